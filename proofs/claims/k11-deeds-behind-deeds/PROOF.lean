import PyProof.Rows.All
import Wide.All
import OpenK.AllK
import Wide.FinOn
import HandS.ForMost
import HandS.Deep
import HandS.IsInst
import HandS.Conv
import HandS.TupAny
import HandS.TupMul
import KE.DataCmp
import HandS.TupLe
import KE.SortData
import KE.LtData
import HandS.SortOrd
import HandS.SortRule
import HandS.Iter
import HandS.Flow
import HandS.SortInts
import HandS.SetFor
import KE.GoesEnum
import HandS.Style
import KE.KDictZip
import KE.KDictPairs
import KE.DataMinMax
import KE.GoesMore
import HandS.Words
import PySem.Challenge.RW_checksenough_k11_whole_deeds_behind_deed
set_option Elab.async false
set_option linter.all false
set_option maxRecDepth 100000
set_option maxHeartbeats 4000000
/-! R0: tuples that are known to have no dict of their own -/
namespace R
open PySem PySem.Spec PyProof.Rows L2
/-- the object that stands at a has no dict -/
def NoD (K : PySem.W.Frag) (G : Hp) (a : Addr) : Prop := (∃ o u, G a = some (.frz o u) ∧ o.dict = none) ∨ ∃ o, K.lookup a = some o ∧ o.dict = none
theorem NoD.at_ {X : Cx} {pins : List (Addr × Obj)} {σ : L2.St} {H : Hp} {s : Shared} {a : Addr} (I : L2.Inv X pins σ H s) (h : NoD X.K H a) : ∃ o, s.heap.get? a = some o ∧ o.dict = none := by
  rcases h with ⟨o, u, h, d⟩ | ⟨o, h, d⟩
  · exact ⟨o, (I.hok a _ h).1, d⟩
  · exact ⟨o, I.kIn a o h, d⟩
/-- what a new tuple is told as -/
abbrev TQ (Q : VK) (H : Hp) (xs : List V) : Prop := ∀ p, H p = none → ∀ o : Obj, o.dict = none → Q (.ref p) (upd H p (.frz o (.tup xs)))
section
variable {X : Cx} {pins : List (Addr × Obj)} {σ : L2.St} {H : Hp} {s : Shared}
theorem laidT {h' : Heap} {t' : Nat} {its : List Value} {xs : List V} {Q : VK} (I : L2.Inv X pins σ H { s with heap := h' }) (r : Vals xs its) (hz : xs.length ≤ sizeLine) (q : TQ Q H xs) :
    EP X pins σ Q (.ref h'.objs.size) { s with heap := h'.push { cls := .type "tuple", data := .seq its.toArray }, toks := t' } := by
  refine ⟨.ref h'.objs.size, upd H h'.objs.size (.frz { cls := .type "tuple", data := .seq its.toArray } (.tup xs)), L2.Inv.laid (s := { s with heap := h' }) (t' := t') I (fun b o e => Heap.get?_push_of_some _ e) (Nat.le_refl _) ?_, rfl, q _ (I.hok.fresh (Nat.le_refl _)) _ rfl⟩
  exact ⟨Heap.get?_push_size _ rfl, hz, its, r, IsTup.new _ _⟩
def tTupN (t : TA) : TE := fun σ H Q => t σ H fun xs H1 => xs.length ≤ sizeLine ∧ TQ Q H1 xs
theorem pe_tupN {es : List Expr} {t : TA} {x1 : Nat} {pos : Pos} (h : PA X es t) : PE X (.Tuple es x1 pos) (tTupN t) := by
  refine ⟨fun pins s σ H Q I hq => ?_⟩
  refine wpAny_Tuple_spliced (thn (h.run pos pins s σ H _ I hq) fun us s1 ⟨xs, H1, I1, r, z, q⟩ => ⟨by rw [← r.length]; exact z, ?_⟩)
  exact laidT (s := s1) (t' := s1.toks) I1 r z q
theorem call_tuple_ofN : CallR X (.type "tuple") (fun xs H Q => ∃ p ys, xs = [.ref p] ∧ ((SqL X.K H p ys ∧ TQ Q H ys) ∨ (SqT X.K H p ys ∧ Q (.ref p) H))) := by
  intro pins s σ H xs us Q I r h
  obtain ⟨p, ys, rfl, h⟩ := h
  obtain ⟨u, rfl, rx⟩ := vals1 r
  cases rx
  rcases h with ⟨hq, q⟩ | ⟨hq, q⟩
  · obtain ⟨its, r', pl, hz⟩ := I.list hq
    have hlen := r'.length
    refine call_tuple_list pl.isList (fun h' kp => ?_) (by simp only [List.size_toArray] <;> omega)
    have I1 : L2.Inv X pins σ H { s with heap := h' } := I.kept (t' := s.toks) kp
    exact laidT (s := s) (t' := s.toks) I1 r' hz q
  · obtain ⟨its, r', pl, hz⟩ := I.tuple hq
    exact call_tuple_same pl ⟨.ref p, H, I, rfl, q⟩
def rCatN (K : PySem.W.Frag) : L2.R2 := fun x y H Q => ∃ a b xs ys, x = .ref a ∧ y = .ref b ∧ SqT K H a xs ∧ SqT K H b ys ∧ xs.length + ys.length ≤ sizeLine ∧
  (xs = [] → Q (.ref b) H) ∧ (xs ≠ [] → ys = [] → Q (.ref a) H) ∧ (xs ≠ [] → ys ≠ [] → TQ Q H (xs ++ ys))
theorem op_catN : OpR X (binaryOp .Add) (rCatN X.K) := by
  intro pins s σ H x y v u Q I rx ry h
  obtain ⟨a, b, xs, ys, rfl, rfl, ha, hb, hz, q0, q1, q2⟩ := h
  by_cases hx : xs = []
  · subst hx
    cases rx
    cases ry
    obtain ⟨its, r1, p1, _⟩ := I.tuple ha
    obtain ⟨its2, r2, p2, _⟩ := I.tuple hb
    cases r1
    exact cat_tup0 p1 p2 ⟨.ref b, H, I, rfl, q0 rfl⟩
  · cases rx
    cases ry
    obtain ⟨its, r1, p1, _⟩ := I.tuple ha
    obtain ⟨its2, r2, p2, _⟩ := I.tuple hb
    refine HT.cat_tup p1 p2 (fun z => hx (r1.nil_iff.mp z)) (fun z => ⟨.ref a, H, I, rfl, q1 hx (r2.nil_iff.mp z)⟩) (fun z => ?_) (by rw [← r1.length, ← r2.length]; exact hz)
    exact laidT (s := s) (t' := s.toks) I (r1.append r2) (by rw [List.length_append]; exact hz) (q2 hx fun w => z (r2.nil_iff.mpr w))
def rSlN (K : PySem.W.Frag) : V → Option Int → Option Int → Hp → VK → Prop := fun x lo hi H Q => ∃ a xs, x = .ref a ∧ SqT K H a xs ∧
  (HT.sIx xs.length 0 lo = 0 ∧ HT.sIx xs.length xs.length hi = xs.length → Q (.ref a) H) ∧ (¬ (HT.sIx xs.length 0 lo = 0 ∧ HT.sIx xs.length xs.length hi = xs.length) → TQ Q H (cutV xs lo hi))
theorem sl_tupN : SlR X (rSlN X.K) := by
  intro pins s σ H x v vl vu lo hi sl Q I rx hs pl pu h
  obtain ⟨a, xs, rfl, hx, q1, q2⟩ := h
  cases rx
  obtain ⟨its, r, ht, hz⟩ := I.tuple hx
  have hlen : its.toArray.size = xs.length := by rw [List.size_toArray]; exact r.length.symm
  refine ⟨"tuple", _, PyProof.Rows.slot_tuple_getitem.lookup, ht.typeIs, ?_⟩
  by_cases hw : HT.sIx xs.length 0 lo = 0 ∧ HT.sIx xs.length xs.length hi = xs.length
  · exact getItem_tuple_whole ht hs pl pu (by rw [hlen]; exact hw) ⟨.ref a, H, I, rfl, q1 hw⟩
  · refine HT.getItem_tuple_cut ht hs pl pu (by rw [hlen]; exact hw) ?_ (by rw [hlen]; exact hz)
    rw [hlen]
    exact laidT (s := s) (t' := s.toks) I ((r.drop (HT.sIx xs.length 0 lo)).take (HT.sIx xs.length xs.length hi - HT.sIx xs.length 0 lo)) (Nat.le_trans (cutV_length xs lo hi) hz) (q2 hw)
def rRepN (K : PySem.W.Frag) : L2.R2 := fun x y H Q => ∃ l k xs, x = .ref l ∧ y = .int k ∧ SqT K H l xs ∧ xs ≠ [] ∧ 2 ≤ k ∧ k ≤ 1000 ∧ xs.length ≤ 1000 ∧ TQ Q H (List.replicate k.toNat xs).flatten
theorem op_repN : OpR X (binaryOp .Mult) (rRepN X.K) := by
  intro pins s σ H x y v u Q I rx ry h
  obtain ⟨l, k, xs, rfl, rfl, hT, hne, h1, h2, hz, q⟩ := h
  cases rx
  obtain ⟨t, rfl⟩ := ry
  obtain ⟨its, r, ⟨⟨cls, dd, data, sl⟩, ho, hc, n, hd⟩, hs⟩ := I.tuple hT
  simp only at hc hd
  subst hc hd
  have hle : its.length = xs.length := r.length.symm
  have hn : its ≠ [] := fun e => hne (by
    rw [e] at hle
    exact List.eq_nil_of_length_eq_zero hle.symm)
  have hi : its.toArray.isEmpty = false := by
    cases its with
    | nil => exact absurd rfl hn
    | cons a b => rfl
  have hsz0 : its.toArray.size = xs.length := by rw [List.size_toArray, hle]
  have hm : ((its.toArray.size : Nat) : Int) * k ≤ 1000000 := by
    rw [hsz0]
    have a1 : ((xs.length : Nat) : Int) * k ≤ 1000 * k := Int.mul_le_mul_of_nonneg_right (by omega) (by omega)
    omega
  have flen : (List.replicate k.toNat its).flatten.length ≤ sizeLine := by
    rw [PyProof.Rows.lm_len_rep_flat, hle, sizeLine_eq]
    have a1 : k.toNat * xs.length ≤ 1000 * 1000 := Nat.mul_le_mul (by omega) hz
    omega
  have c0 : (decide (k < -(2 ^ 63)) || decide (k ≥ 2 ^ 63)) = false := by
    rw [decide_eq_false (by omega), decide_eq_false (by omega)] <;> rfl
  have c1 : (its.toArray.isEmpty || k == 1) = false := by
    rw [hi, Bool.false_or]
    exact beq_eq_false_iff_ne.mpr (by omega)
  have c2 : (decide (k ≤ 0) || its.toArray.isEmpty) = false := by
    rw [hi, Bool.or_false]
    exact decide_eq_false (by omega)
  have c4 : Builtin.Tuple.tupleTooMany (((its.toArray.size : Nat) : Int) * k) = false := by
    unfold Builtin.Tuple.tupleTooMany
    rw [sizeLine_eq]
    exact decide_eq_false (by omega)
  refine wpAny_binaryOp_repeat_ref (T := "tuple") (U := "int") (by decide) ⟨_, ho, rfl⟩ (fun s' => typeIs_int s' k t) noFill_tuple_mul PySem.F.fills_int_mul PySem.F.slot_int_rmul repeat_tuple PySem.F.slot_int_index.lookup
    (call_meets PySem.F.slot_int_rmul (typeIs_int s k t) PySem.F.entry_int_rmul (PySem.F.args_int_rmul_2 _ _) (int_rmul_tuple k t l its.toArray n dd sl)
      ⟨ho, rfl, ⟨_, ho, rfl⟩, call_meets PySem.F.slot_tuple_mul ⟨_, ho, rfl⟩ PySem.F.entry_tuple_mul (PySem.F.args_tuple_mul_2 _ _) (tuple_mulW l its.toArray n dd sl k t c0 c1 c2 (by omega) c4 (by rw [size_rep, List.size_toArray]; exact flen)) ⟨ho, ?_⟩⟩)
  rw [size_rep]
  exact laidT (s := s) (t' := s.toks) I (r.rep k.toNat) (by rw [PyProof.Rows.lm_len_rep_flat, sizeLine_eq]; have a1 : k.toNat * xs.length ≤ 1000 * 1000 := Nat.mul_le_mul (by omega) hz; omega) q
def tTupRgN (te : L2.St → Hp → (Int → Int → Hp → Prop) → Prop) : TE := fun σ H Q => te σ H fun a b H1 => RgOk a b ∧ TQ Q H1 (rgV a b)
theorem pe_tupRgN {e : Expr} {te : L2.St → Hp → (Int → Int → Hp → Prop) → Prop} {p pos : Pos} (hc : X.calm = true) (hg : Gl X "tuple") (hm : X.mg "tuple" = none) (he : PRg X e te) (na : starEach [e] X.env = (false, eval e X.env) :: starEach [] X.env := by rfl) : PE X (.Call (.Name "tuple" p) [e] [] pos) (tTupRgN te) := by
  refine ⟨fun pins s σ H Q I h => ?_⟩
  refine PyProof.Rows.Call_ (ld_blt I hg hm boot_tuple (PyProof.Rows.callWith_type1 (PyProof.Rows.args_cons (thn (he pins s σ H _ I h) fun x s1 ⟨r, a, b, t, u, v, H1, ex, hr, I1, ok, q⟩ => PyProof.Rows.args_nil ?_) na) na))
  subst ex
  obtain ⟨b1, b2, b3, b4, b5⟩ := ok
  refine call_tuple_range (n := (b - a).toNat) (I1.ok.hd hc) hr (small_one b1 b2 b3 b4) (rangeSize_nat a b) b5 fun h' tk acc hk hi => ?_
  have I2 : L2.Inv X pins σ H1 { s1 with heap := h' } := I1.kept (t' := s1.toks) hk
  have z := laidT (s := s1) (t' := tk) I2 (vals_rg hi) (by rw [rgV_length, sizeLine_eq]; omega) q
  rw [Array.toArray_toList] at z
  exact z
end
end R

set_option Elab.async false
set_option linter.all false
set_option maxRecDepth 100000
set_option maxHeartbeats 2000000
/-! R1: data, worlds, what stands for what -/
namespace R
open PySem PySem.Spec PyProof.Rows L2

inductive D where
  | non | bl (b : Bool) | int (i : Int) | str (s : Str)
  | tup (xs : List D) | lst (xs : List D) | dct (ks : List Key) (vs : List D) | obj (n : Nat) | scr (xs : List D)

mutual
inductive Rep (K : PySem.W.Frag) (G : Hp) (al : List Addr) : V → D → Prop
  | non : Rep K G al .non .non
  | bl (b : Bool) : Rep K G al (.bl b) (.bl b)
  | int (i : Int) : Rep K G al (.int i) (.int i)
  | str (x : Str) (h : PyData.strOk x = true) : Rep K G al (.str x) (.str x)
  | tup {a : Addr} {vs : List V} {ds : List D} (h : SqT K G a vs) (n : NoD K G a) (r : Reps K G al vs ds) : Rep K G al (.ref a) (.tup ds)
  | lst {a : Addr} {vs : List V} {ds : List D} (h : G a = some (.lst vs)) (r : Reps K G al vs ds) : Rep K G al (.ref a) (.lst ds)
  | scr {a : Addr} {vs : List V} {ds : List D} (h : SqL K G a vs) (r : Reps K G al vs ds) : Rep K G al (.ref a) (.scr ds)
  | dct {a : Addr} {kvs : List (Key × V)} {ds : List D} (h : G a = some (.dK kvs)) (r : Reps K G al (kvs.map (·.2)) ds) : Rep K G al (.ref a) (.dct (kvs.map (·.1)) ds)
  | obj {n : Nat} {a : Addr} (h : al[n]? = some a) : Rep K G al (.ref a) (.obj n)
inductive Reps (K : PySem.W.Frag) (G : Hp) (al : List Addr) : List V → List D → Prop
  | nil : Reps K G al [] []
  | cons {v : V} {vs : List V} {d : D} {ds : List D} : Rep K G al v d → Reps K G al vs ds → Reps K G al (v :: vs) (d :: ds)
end

/-- nothing is lost -/
def Le (G H : Hp) : Prop := ∀ a o, G a = some o → H a = some o
theorem Le.refl (G : Hp) : Le G G := fun _ _ h => h
theorem Le.trans {G H J : Hp} (a : Le G H) (b : Le H J) : Le G J := fun x o h => b x o (a x o h)
theorem Le.upd {G : Hp} {p : Addr} {o : HO} (h : G p = none) : Le G (L2.upd G p o) := fun a u e => by
  rw [upd_ne (ne_of_none e h)]
  exact e
theorem Le.sqL {K : PySem.W.Frag} {G H : Hp} {a : Addr} {xs : List V} (e : Le G H) (h : SqL K G a xs) : SqL K H a xs := by
  rcases h with (h | ⟨o, h⟩) | h
  · exact .inl (.inl (e _ _ h))
  · exact .inl (.inr ⟨o, e _ _ h⟩)
  · exact .inr h
theorem Le.sqT {K : PySem.W.Frag} {G H : Hp} {a : Addr} {xs : List V} (e : Le G H) (h : SqT K G a xs) : SqT K H a xs := by
  rcases h with (h | ⟨o, h⟩) | h
  · exact .inl (.inl (e _ _ h))
  · exact .inl (.inr ⟨o, e _ _ h⟩)
  · exact .inr h
theorem Le.noD {K : PySem.W.Frag} {G H : Hp} {a : Addr} (e : Le G H) : NoD K G a → NoD K H a
  | .inl ⟨o, u, h, d⟩ => .inl ⟨o, u, e _ _ h, d⟩
  | .inr h => .inr h
def Pre (al al' : List Addr) : Prop := ∃ more, al' = al ++ more
theorem Pre.refl (al : List Addr) : Pre al al := ⟨[], by simp⟩
theorem Pre.trans {a b c : List Addr} : Pre a b → Pre b c → Pre a c
  | ⟨m, e⟩, ⟨n, f⟩ => ⟨m ++ n, by rw [f, e, List.append_assoc]⟩
theorem Pre.get {al al' : List Addr} {n : Nat} {a : Addr} : Pre al al' → al[n]? = some a → al'[n]? = some a
  | ⟨m, e⟩, h => by
    obtain ⟨hl, _⟩ := List.getElem?_eq_some_iff.mp h
    rw [e, List.getElem?_append_left hl]
    exact h

mutual
theorem Rep.mono {K : PySem.W.Frag} {G G' : Hp} {al al' : List Addr} (hG : Le G G') (ha : Pre al al') : ∀ {v : V} {d : D}, Rep K G al v d → Rep K G' al' v d
  | _, _, .non => .non
  | _, _, .bl b => .bl b
  | _, _, .int i => .int i
  | _, _, .str x h => .str x h
  | _, _, .tup h n r => .tup (hG.sqT h) (hG.noD n) (Reps.mono hG ha r)
  | _, _, .lst h r => .lst (hG _ _ h) (Reps.mono hG ha r)
  | _, _, .scr h r => .scr (hG.sqL h) (Reps.mono hG ha r)
  | _, _, .dct h r => .dct (hG _ _ h) (Reps.mono hG ha r)
  | _, _, .obj h => .obj (ha.get h)
theorem Reps.mono {K : PySem.W.Frag} {G G' : Hp} {al al' : List Addr} (hG : Le G G') (ha : Pre al al') : ∀ {vs : List V} {ds : List D}, Reps K G al vs ds → Reps K G' al' vs ds
  | _, _, .nil => .nil
  | _, _, .cons h r => .cons (Rep.mono hG ha h) (Reps.mono hG ha r)
end
section
variable {K : PySem.W.Frag} {G : Hp} {al : List Addr} {v : V} {vs ws : List V} {d : D} {ds es : List D}
theorem Reps.length : ∀ {vs : List V} {ds : List D}, Reps K G al vs ds → vs.length = ds.length
  | _, _, .nil => rfl
  | _, _, .cons _ r => by rw [List.length_cons, List.length_cons, Reps.length r]
theorem Reps.get : ∀ {vs : List V} {ds : List D} {i : Nat} {d : D}, Reps K G al vs ds → ds[i]? = some d → ∃ v, vs[i]? = some v ∧ Rep K G al v d
  | _, _, _, _, .nil, h => by simp at h
  | _, _, 0, _, .cons h r, e => by
    simp at e
    subst e
    exact ⟨_, rfl, h⟩
  | _, _, i + 1, _, .cons h r, e => by
    obtain ⟨v, a, b⟩ := Reps.get (i := i) r (by simpa using e)
    exact ⟨v, by simpa using a, b⟩
theorem Reps.getV : ∀ {vs : List V} {ds : List D} {i : Nat} {v : V}, Reps K G al vs ds → vs[i]? = some v → ∃ d, ds[i]? = some d ∧ Rep K G al v d
  | _, _, _, _, .nil, h => by simp at h
  | _, _, 0, _, .cons h r, e => by
    simp at e
    subst e
    exact ⟨_, rfl, h⟩
  | _, _, i + 1, _, .cons h r, e => by
    obtain ⟨v, a, b⟩ := Reps.getV (i := i) r (by simpa using e)
    exact ⟨v, by simpa using a, b⟩
theorem Reps.append : ∀ {vs ws : List V} {ds es : List D}, Reps K G al vs ds → Reps K G al ws es → Reps K G al (vs ++ ws) (ds ++ es)
  | _, _, _, _, .nil, s => s
  | _, _, _, _, .cons h r, s => .cons h (Reps.append r s)
theorem Reps.take : ∀ {vs : List V} {ds : List D} (n : Nat), Reps K G al vs ds → Reps K G al (vs.take n) (ds.take n)
  | _, _, 0, _ => by simpa using Reps.nil
  | _, _, _ + 1, .nil => by simpa using Reps.nil
  | _, _, n + 1, .cons h r => by simpa using Reps.cons h (Reps.take n r)
theorem Reps.drop : ∀ {vs : List V} {ds : List D} (n : Nat), Reps K G al vs ds → Reps K G al (vs.drop n) (ds.drop n)
  | _, _, 0, r => by simpa using r
  | _, _, _ + 1, .nil => by simpa using Reps.nil
  | _, _, n + 1, .cons h r => by simpa using Reps.drop n r
theorem Reps.reverse : ∀ {vs : List V} {ds : List D}, Reps K G al vs ds → Reps K G al vs.reverse ds.reverse
  | _, _, .nil => .nil
  | _, _, .cons h r => by
    rw [List.reverse_cons, List.reverse_cons]
    exact Reps.append (Reps.reverse r) (.cons h .nil)
theorem Reps.set : ∀ {vs : List V} {ds : List D} {v : V} {d : D} (i : Nat), Rep K G al v d → Reps K G al vs ds → Reps K G al (vs.set i v) (ds.set i d)
  | _, _, _, _, _, _, .nil => .nil
  | _, _, _, _, 0, q, .cons _ r => .cons q r
  | _, _, _, _, i + 1, q, .cons h r => .cons h (Reps.set i q r)
theorem Reps.snoc (r : Reps K G al vs ds) (h : Rep K G al v d) : Reps K G al (vs ++ [v]) (ds ++ [d]) := r.append (.cons h .nil)
end

/-- the objects that may change and live on: a list, an instance -/
inductive MO where
  | lst (ds : List D)
  | ins (C : Addr) (fs : List (Str × D))

/-- what is frozen; what is others'; the frame's own lists; the living objects -/
structure Wd where
  G : Hp
  B : Hp
  O : Hp
  al : List Addr

inductive MoOk (K : PySem.W.Frag) (G : Hp) (al : List Addr) (H : Hp) (a : Addr) : MO → Prop
  | lst {vs : List V} {ds : List D} (h : H a = some (.lst vs)) (r : Reps K G al vs ds) : MoOk K G al H a (.lst ds)
  | ins {C dx : Addr} {fs : List (Str × V)} {ds : List D} (h : H a = some (.ins C dx fs)) (r : Reps K G al (fs.map (·.2)) ds) : MoOk K G al H a (.ins C ((fs.map (·.1)).zip ds))

/-- a list or dict of the frame's own, as it stands -/
inductive Ow (K : PySem.W.Frag) (G : Hp) (al : List Addr) : HO → D → Prop
  | lst {vs : List V} {ds : List D} (r : Reps K G al vs ds) : Ow K G al (.lst vs) (.lst ds)
  | dct {kvs : List (Key × V)} {ds : List D} (r : Reps K G al (kvs.map (·.2)) ds) : Ow K G al (.dK kvs) (.dct (kvs.map (·.1)) ds)
theorem Ow.mono {K : PySem.W.Frag} {G G' : Hp} {al al' : List Addr} {o : HO} {d : D} (hG : Le G G') (ha : Pre al al') : Ow K G al o d → Ow K G' al' o d
  | .lst r => .lst (r.mono hG ha)
  | .dct r => .dct (r.mono hG ha)
theorem MoOk.mono {K : PySem.W.Frag} {G G' H H' : Hp} {al al' : List Addr} {a : Addr} {m : MO} (hG : Le G G') (ha : Pre al al') (e : H' a = H a) : MoOk K G al H a m → MoOk K G' al' H' a m
  | .lst h r => .lst (e.trans h) (r.mono hG ha)
  | .ins h r => .ins (e.trans h) (r.mono hG ha)

structure Rw (K : PySem.W.Frag) (W : Wd) (M : List MO) (H : Hp) : Prop where
  g : Le W.G H
  b : Le W.B H
  o : Le W.O H
  gb : ∀ a, W.G a ≠ none → W.B a = none ∧ W.O a = none
  bo : ∀ a, W.B a ≠ none → W.O a = none
  ag : ∀ a ∈ W.al, W.G a = none ∧ W.B a = none ∧ W.O a = none
  nd : W.al.Nodup
  ml : W.al.length = M.length
  mo : ∀ (n : Nat) (a : Addr) (m : MO), W.al[n]? = some a → M[n]? = some m → MoOk K W.G W.al H a m

/-- a step of the world -/
structure Evo (W W' : Wd) : Prop where
  g : Le W.G W'.G
  b : W'.B = W.B
  o : W'.O = W.O
  al : Pre W.al W'.al
theorem Evo.refl (W : Wd) : Evo W W := ⟨Le.refl _, rfl, rfl, Pre.refl _⟩
theorem Evo.trans {W W1 W2 : Wd} (a : Evo W W1) (b : Evo W1 W2) : Evo W W2 := ⟨a.g.trans b.g, b.b.trans a.b, b.o.trans a.o, a.al.trans b.al⟩
abbrev RepW (K : PySem.W.Frag) (W : Wd) (v : V) (d : D) : Prop := Rep K W.G W.al v d
abbrev RepsW (K : PySem.W.Frag) (W : Wd) (v : List V) (d : List D) : Prop := Reps K W.G W.al v d
theorem Rep.evo {K : PySem.W.Frag} {W W' : Wd} {v : V} {d : D} (h : RepW K W v d) (e : Evo W W') : RepW K W' v d := Rep.mono e.g e.al h
theorem Reps.evo {K : PySem.W.Frag} {W W' : Wd} {v : List V} {d : List D} (h : RepsW K W v d) (e : Evo W W') : RepsW K W' v d := Reps.mono e.g e.al h

/-- a frame's slots -/
inductive Sl where
  | no | fz (d : D) | own (d : D)
inductive SlOk (K : PySem.W.Frag) (W : Wd) : Sl → Option (Option V) → Prop
  | no {x : Option V} : SlOk K W .no (some x)
  | fz {v : V} {d : D} (h : RepW K W v d) : SlOk K W (.fz d) (some (some v))
  | own {a : Addr} {o : HO} {d : D} (h : W.O a = some o) (r : Ow K W.G W.al o d) : SlOk K W (.own d) (some (some (.ref a)))
structure Re (K : PySem.W.Frag) (W : Wd) (env : List Sl) (σ : L2.St) : Prop where
  len : σ.length = env.length
  at_ : ∀ (i : Nat) (s : Sl), env[i]? = some s → SlOk K W s σ[i]?
  inj : ∀ (i j : Nat) (d e : D) (a : Addr), env[i]? = some (.own d) → env[j]? = some (.own e) → σ[i]? = some (some (.ref a)) → σ[j]? = some (some (.ref a)) → i = j
theorem SlOk.evo {K : PySem.W.Frag} {W W' : Wd} {s : Sl} {x : Option (Option V)} (h : SlOk K W s x) (e : Evo W W') : SlOk K W' s x := by
  cases h with
  | no => exact .no
  | fz h => exact .fz (h.evo e)
  | own h r => exact .own (by rw [e.o]; exact h) (r.mono e.g e.al)
theorem Re.evo {K : PySem.W.Frag} {W W' : Wd} {env : List Sl} {σ : L2.St} (h : Re K W env σ) (e : Evo W W') : Re K W' env σ :=
  ⟨h.len, fun i s q => (h.at_ i s q).evo e, h.inj⟩

/-- a value of an expression: new and not yet known to anybody, or frozen -/
inductive RepR (K : PySem.W.Frag) (W : Wd) (H : Hp) : D × Bool → V → Prop
  | old {v : V} {d : D} (h : RepW K W v d) : RepR K W H (d, false) v
  | new {a : Addr} {o : HO} {d : D} (h : H a = some o) (r : Ow K W.G W.al o d) (g : W.G a = none) (b : W.B a = none) (oo : W.O a = none) (m : a ∉ W.al) : RepR K W H (d, true) (.ref a)
/-- .. that is looked at: frozen, or one of the frame's own -/
inductive RepP (K : PySem.W.Frag) (W : Wd) : V → D → Prop
  | fz {v : V} {d : D} (h : RepW K W v d) : RepP K W v d
  | own {a : Addr} {o : HO} {d : D} (h : W.O a = some o) (r : Ow K W.G W.al o d) : RepP K W (.ref a) d
theorem RepP.evo {K : PySem.W.Frag} {W W' : Wd} {v : V} {d : D} (h : RepP K W v d) (e : Evo W W') : RepP K W' v d := by
  cases h with
  | fz h => exact .fz (h.evo e)
  | own h r => exact .own (by rw [e.o]; exact h) (r.mono e.g e.al)

/-- what is new is frozen -/
theorem Rw.freeze {K : PySem.W.Frag} {W : Wd} {M : List MO} {H : Hp} (w : Rw K W M H) {a : Addr} {o : HO} (h : H a = some o) (g : W.G a = none) (b : W.B a = none) (oo : W.O a = none) (m : a ∉ W.al) :
    Evo W { W with G := upd W.G a o } ∧ Rw K { W with G := upd W.G a o } M H := by
  have e : Evo W { W with G := upd W.G a o } := ⟨Le.upd g, rfl, rfl, Pre.refl _⟩
  refine ⟨e, ⟨fun c u q => ?_, w.b, w.o, fun c q => ?_, w.bo, fun c hc => ?_, w.nd, w.ml, fun n c mm h1 h2 => (w.mo n c mm h1 h2).mono e.g e.al rfl⟩⟩
  · by_cases z : c = a
    · subst z
      have q' : upd W.G c o c = some u := q
      rw [upd_same] at q'
      cases q'
      exact h
    · have q' : upd W.G a o c = some u := q
      rw [upd_ne z] at q'
      exact w.g _ _ q'
  · by_cases z : c = a
    · subst z
      exact ⟨b, oo⟩
    · have q' : upd W.G a o c ≠ none := q
      rw [upd_ne z] at q'
      exact w.gb c q'
  · have z : c ≠ a := fun z => m (z ▸ hc)
    obtain ⟨h1, h2, h3⟩ := w.ag c hc
    refine ⟨?_, h2, h3⟩
    show upd W.G a o c = none
    rw [upd_ne z]
    exact h1
theorem Ow.rep {K : PySem.W.Frag} {G : Hp} {al : List Addr} {a : Addr} {o : HO} {d : D} (h : G a = some o) : Ow K G al o d → Rep K G al (.ref a) d
  | .lst r => .lst h r
  | .dct r => .dct h r
theorem RepR.freeze {K : PySem.W.Frag} {W : Wd} {M : List MO} {H : Hp} {r : D × Bool} {v : V} (h : RepR K W H r v) (w : Rw K W M H) : ∃ W', Evo W W' ∧ Rw K W' M H ∧ RepW K W' v r.1 := by
  cases h with
  | old h => exact ⟨W, Evo.refl W, w, h⟩
  | new h r g b oo m =>
    obtain ⟨e, w'⟩ := w.freeze h g b oo m
    exact ⟨_, e, w', (r.mono e.g e.al).rep upd_same⟩

/-- a new object comes: what is known stays -/
theorem Rw.fresh {K : PySem.W.Frag} {W : Wd} {M : List MO} {H : Hp} (w : Rw K W M H) {p : Addr} (hp : H p = none) : W.G p = none ∧ W.B p = none ∧ W.O p = none ∧ p ∉ W.al := by
  have f : ∀ {G : Hp}, Le G H → G p = none := fun {G} l => by
    cases q : G p with
    | none => rfl
    | some o =>
      rw [l _ _ q] at hp
      cases hp
  refine ⟨f w.g, f w.b, f w.o, fun hm => ?_⟩
  obtain ⟨n, hn⟩ := List.getElem?_of_mem hm
  have hl : n < M.length := by
    rw [← w.ml]
    exact (List.getElem?_eq_some_iff.mp hn).1
  have z := w.mo n p M[n] hn (List.getElem?_eq_getElem hl)
  generalize M[n] = m at z
  cases z with
  | lst h _ =>
    rw [h] at hp
    cases hp
  | ins h _ =>
    rw [h] at hp
    cases hp
theorem Rw.new {K : PySem.W.Frag} {W : Wd} {M : List MO} {H : Hp} (w : Rw K W M H) {p : Addr} (hp : H p = none) (o : HO) : Rw K W M (upd H p o) := by
  have l : Le H (upd H p o) := Le.upd hp
  refine ⟨w.g.trans l, w.b.trans l, w.o.trans l, w.gb, w.bo, w.ag, w.nd, w.ml, fun n a m h1 h2 => (w.mo n a m h1 h2).mono (Le.refl _) (Pre.refl _) (upd_ne fun z => ?_)⟩
  subst z
  exact (w.fresh hp).2.2.2 (List.mem_of_getElem? h1)
end R

set_option Elab.async false
set_option linter.all false
set_option maxRecDepth 100000
set_option maxHeartbeats 2000000
/-! R2: readings of compiled expressions -/
namespace R
open PySem PySem.Spec PyProof.Rows L2

abbrev Env := List Sl
abbrev EE := Env → List MO → Option ((D × Bool) × List MO)
abbrev EP := Env → List MO → Option (D × List MO)
abbrev EB := Env → List MO → Option (Bool × List MO)
abbrev EL := Env → List MO → Option (List D × List MO)

section
variable (K : PySem.W.Frag)
def tE (f : EE) : TE := fun σ H Q => ∃ W env M r M', Rw K W M H ∧ Re K W env σ ∧ f env M = some (r, M') ∧ ∀ v H' W', Evo W W' → Rw K W' M' H' → RepR K W' H' r v → Q v H'
def tF (f : EP) : TE := fun σ H Q => ∃ W env M d M', Rw K W M H ∧ Re K W env σ ∧ f env M = some (d, M') ∧ ∀ v H' W', Evo W W' → Rw K W' M' H' → RepW K W' v d → Q v H'
def tP (f : EP) : TE := fun σ H Q => ∃ W env M d M', Rw K W M H ∧ Re K W env σ ∧ f env M = some (d, M') ∧ ∀ v H' W', Evo W W' → Rw K W' M' H' → RepP K W' v d → Q v H'
def tT (f : EB) : TT := fun σ H Q => ∃ W env M b M', Rw K W M H ∧ Re K W env σ ∧ f env M = some (b, M') ∧ ∀ H' W', Evo W W' → Rw K W' M' H' → Q b H'
def tL (f : EL) : TA := fun σ H Q => ∃ W env M ds M', Rw K W M H ∧ Re K W env σ ∧ f env M = some (ds, M') ∧ ∀ vs H' W', Evo W W' → Rw K W' M' H' → RepsW K W' vs ds → Q vs H'
/-- .. looked at -/
inductive RepPs (K : PySem.W.Frag) (W : Wd) : List V → List D → Prop
  | nil : RepPs K W [] []
  | cons {v : V} {d : D} {vs : List V} {ds : List D} : RepP K W v d → RepPs K W vs ds → RepPs K W (v :: vs) (d :: ds)
def tLP (f : EL) : TA := fun σ H Q => ∃ W env M ds M', Rw K W M H ∧ Re K W env σ ∧ f env M = some (ds, M') ∧ ∀ vs H' W', Evo W W' → Rw K W' M' H' → RepPs K W' vs ds → Q vs H'
end

theorem PE.imp {X : Cx} {e : Expr} {t t' : TE} (h : PE X e t) (i : ∀ σ H Q, t' σ H Q → t σ H Q) : PE X e t' := ⟨fun pins s σ H Q I q => h.run pins s σ H Q I (i σ H Q q)⟩
theorem PT.imp {X : Cx} {e : Expr} {t t' : TT} (h : PT X e t) (i : ∀ σ H Q, t' σ H Q → t σ H Q) : PT X e t' := ⟨fun pins s σ H Q I q => h.run pins s σ H Q I (i σ H Q q)⟩
theorem PA.imp {X : Cx} {e : List Expr} {t t' : TA} (h : PA X e t) (i : ∀ σ H Q, t' σ H Q → t σ H Q) : PA X e t' := ⟨fun pos pins s σ H Q I q => h.run pos pins s σ H Q I (i σ H Q q)⟩
theorem PS.imp {X : Cx} {e : Stmt} {t t' : TS} (h : PS X e t) (i : ∀ D σ H, t' D σ H → t D σ H) : PS X e t' := ⟨fun pins s σ H D I q => h.run pins s σ H D I (i D σ H q)⟩
theorem PSs.imp {X : Cx} {e : List Stmt} {t t' : TS} (h : PSs X e t) (i : ∀ D σ H, t' D σ H → t D σ H) : PSs X e t' := ⟨fun pins s σ H D I q => h.run pins s σ H D I (i D σ H q)⟩
theorem PI.imp {X : Cx} {tg e : Expr} {t t' : TI} (h : PI X tg e t) (i : ∀ σ H Q, t' σ H Q → t σ H Q) : PI X tg e t' := ⟨fun pins s σ H Q I q => h.run pins s σ H Q I (i σ H Q q)⟩

/-! ### coercions -/
def eFz (f : EE) : EP := fun env M => (f env M).map fun r => (r.1.1, r.2)
def eOld (f : EP) : EE := fun env M => (f env M).map fun r => ((r.1, false), r.2)
section
variable {K : PySem.W.Frag} {W : Wd} {M : List MO} {H : Hp} {v : V}
theorem tF_of_tE {f : EE} {σ : L2.St} {H : Hp} {Q : VK} (h : tF K (eFz f) σ H Q) : tE K f σ H Q := by
  obtain ⟨W, env, M, d, M', w, re, e, q⟩ := h
  unfold eFz at e
  cases hf : f env M with
  | none =>
    rw [hf] at e
    cases e
  | some p =>
    obtain ⟨r, M1⟩ := p
    rw [hf] at e
    cases e
    refine ⟨W, env, M, r, _, w, re, hf, fun v H' W' e1 w1 rr => ?_⟩
    obtain ⟨W2, e2, w2, r2⟩ := rr.freeze w1
    exact q v H' W2 (e1.trans e2) w2 r2
theorem tP_of_tF {f : EP} {σ : L2.St} {H : Hp} {Q : VK} (h : tP K f σ H Q) : tF K f σ H Q := by
  obtain ⟨W, env, M, d, M', w, re, e, q⟩ := h
  exact ⟨W, env, M, d, M', w, re, e, fun v H' W' e1 w1 r => q v H' W' e1 w1 (.fz r)⟩
theorem tE_of_tF {f : EP} {σ : L2.St} {H : Hp} {Q : VK} (h : tE K (eOld f) σ H Q) : tF K f σ H Q := by
  obtain ⟨W, env, M, r, M', w, re, e, q⟩ := h
  unfold eOld at e
  cases hf : f env M with
  | none =>
    rw [hf] at e
    cases e
  | some p =>
    obtain ⟨d, M1⟩ := p
    rw [hf] at e
    cases e
    exact ⟨W, env, M, d, _, w, re, hf, fun v H' W' e1 w1 rr => q v H' W' e1 w1 (.old rr)⟩
end
section
variable {X : Cx} {e : Expr}
theorem pFz {f : EE} (h : PE X e (tE X.K f)) : PE X e (tF X.K (eFz f)) := PE.imp h fun _ _ _ => tF_of_tE
theorem pPk {f : EP} (h : PE X e (tF X.K f)) : PE X e (tP X.K f) := PE.imp h fun _ _ _ => tP_of_tF
theorem pOld {f : EP} (h : PE X e (tF X.K f)) : PE X e (tE X.K (eOld f)) := PE.imp h fun _ _ _ => tE_of_tF
end

/-! ### what a looked at value is -/
section
variable {K : PySem.W.Frag} {W : Wd} {M : List MO} {H : Hp} {v : V}
theorem RepP.int {i : Int} (h : RepP K W v (.int i)) : v = .int i := by
  cases h with
  | fz h => cases h; rfl
  | own h r => cases r
theorem RepP.bl {i : Bool} (h : RepP K W v (.bl i)) : v = .bl i := by
  cases h with
  | fz h => cases h; rfl
  | own h r => cases r
theorem RepP.str {i : Str} (h : RepP K W v (.str i)) : v = .str i ∧ PyData.strOk i = true := by
  cases h with
  | fz h => cases h with | str _ h => exact ⟨rfl, h⟩
  | own h r => cases r
theorem RepP.non (h : RepP K W v .non) : v = .non := by
  cases h with
  | fz h => cases h; rfl
  | own h r => cases r
theorem RepP.tup {ds : List D} (w : Rw K W M H) (h : RepP K W v (.tup ds)) : ∃ a vs, v = .ref a ∧ SqT K H a vs ∧ RepsW K W vs ds := by
  cases h with
  | fz h => cases h with | tup h n r => exact ⟨_, _, rfl, w.g.sqT h, r⟩
  | own h r => cases r
theorem RepP.lst {ds : List D} (w : Rw K W M H) (h : RepP K W v (.lst ds)) : ∃ a vs, v = .ref a ∧ H a = some (.lst vs) ∧ RepsW K W vs ds := by
  cases h with
  | fz h => cases h with | lst h r => exact ⟨_, _, rfl, w.g _ _ h, r⟩
  | own h r => cases r with | lst r => exact ⟨_, _, rfl, w.o _ _ h, r⟩
theorem RepP.scr {ds : List D} (w : Rw K W M H) (h : RepP K W v (.scr ds)) : ∃ a vs, v = .ref a ∧ SqL K H a vs ∧ RepsW K W vs ds := by
  cases h with
  | fz h => cases h with | scr h r => exact ⟨_, _, rfl, w.g.sqL h, r⟩
  | own h r => cases r
theorem RepP.dct {ks : List Key} {ds : List D} (w : Rw K W M H) (h : RepP K W v (.dct ks ds)) : ∃ a kvs, v = .ref a ∧ H a = some (.dK kvs) ∧ ks = kvs.map (·.1) ∧ RepsW K W (kvs.map (·.2)) ds := by
  cases h with
  | fz h => cases h with | dct h r => exact ⟨_, _, rfl, w.g _ _ h, rfl, r⟩
  | own h r => cases r with | dct r => exact ⟨_, _, rfl, w.o _ _ h, rfl, r⟩
theorem RepP.obj {n : Nat} (h : RepP K W v (.obj n)) : ∃ a, v = .ref a ∧ W.al[n]? = some a := by
  cases h with
  | fz h => cases h with | obj h => exact ⟨_, rfl, h⟩
  | own h r => cases r
theorem RepP.one {x : List V} {d : D} (h : RepPs K W x [d]) : ∃ v, x = [v] ∧ RepP K W v d := by
  cases h with | cons a b => cases b; exact ⟨_, rfl, a⟩
theorem RepPs.two {x : List V} {d e : D} (h : RepPs K W x [d, e]) : ∃ v u, x = [v, u] ∧ RepP K W v d ∧ RepP K W u e := by
  cases h with | cons a b => cases b with | cons b c => cases c; exact ⟨_, _, rfl, a, b⟩
/-- a new list, dict -/
theorem Rw.newL {p : Addr} {o : HO} {d : D} (w : Rw K W M H) (hp : H p = none) (r : Ow K W.G W.al o d) : Rw K W M (upd H p o) ∧ RepR K W (upd H p o) (d, true) (.ref p) := by
  obtain ⟨a, b, c, m⟩ := w.fresh hp
  exact ⟨w.new hp o, .new upd_same r a b c m⟩
/-- a new tuple -/
theorem Rw.newT {p : Addr} {vs : List V} {ds : List D} (w : Rw K W M H) (hp : H p = none) (o : Obj) (ho : o.dict = none) (r : RepsW K W vs ds) :
    ∃ W', Evo W W' ∧ Rw K W' M (upd H p (.frz o (.tup vs))) ∧ RepW K W' (.ref p) (.tup ds) := by
  obtain ⟨a, b, c, m⟩ := w.fresh hp
  obtain ⟨e, w'⟩ := (w.new hp (.frz o (.tup vs))).freeze (a := p) upd_same a b c m
  exact ⟨_, e, w', .tup (.inl (.inr ⟨o, upd_same⟩)) (.inl ⟨o, _, upd_same, ho⟩) (r.mono e.g e.al)⟩
end

/-! ### names, constants -/
def eVar (i : Nat) : EP := fun env M => match env[i]? with
  | some (.fz d) => some (d, M)
  | _ => none
def ePk (i : Nat) : EP := fun env M => match env[i]? with
  | some (.fz d) => some (d, M)
  | some (.own d) => some (d, M)
  | _ => none
def eCst (d : D) : EP := fun _ M => some (d, M)
section
variable {X : Cx} {e a b : Expr} {pos : Pos}
theorem pVar {i : Nat} {x : Str} (hN : X.N[i]? = some x) (hv : Vis X.env.scope x) (hd : (x == ("__debug__" : Str)) = false) (hcd : (x == ("__classdict__" : Str)) = false) : PE X (.Name x pos) (tF X.K (eVar i)) := by
  refine PE.imp (pe_var hN hv hd hcd) fun σ H Q h => ?_
  obtain ⟨W, env, M, d, M', w, re, e, q⟩ := h
  unfold eVar at e
  split at e
  · rename_i d' hd'
    cases e
    have z := re.at_ i _ hd'
    cases hx : σ[i]? with
    | none =>
      rw [hx] at z
      cases z
    | some o =>
      rw [hx] at z
      cases z with
      | fz z => exact ⟨_, hx, q _ _ _ (Evo.refl W) w z⟩
  · cases e
theorem pPeek {i : Nat} {x : Str} (hN : X.N[i]? = some x) (hv : Vis X.env.scope x) (hd : (x == ("__debug__" : Str)) = false) (hcd : (x == ("__classdict__" : Str)) = false) : PE X (.Name x pos) (tP X.K (ePk i)) := by
  refine PE.imp (pe_var hN hv hd hcd) fun σ H Q h => ?_
  obtain ⟨W, env, M, d, M', w, re, e, q⟩ := h
  unfold ePk at e
  split at e
  · rename_i d' hd'
    cases e
    have z := re.at_ i _ hd'
    cases hx : σ[i]? with
    | none =>
      rw [hx] at z
      cases z
    | some o =>
      rw [hx] at z
      cases z with
      | fz z => exact ⟨_, hx, q _ _ _ (Evo.refl W) w (.fz z)⟩
  · rename_i d' hd'
    cases e
    have z := re.at_ i _ hd'
    cases hx : σ[i]? with
    | none =>
      rw [hx] at z
      cases z
    | some o =>
      rw [hx] at z
      cases z with
      | own z r => exact ⟨_, hx, q _ _ _ (Evo.refl W) w (.own z r)⟩
  · cases e
theorem pConst {v : V} {d : D} (h : PE X e (tC v)) (r : ∀ W : Wd, RepW X.K W v d) : PE X e (tF X.K (eCst d)) := by
  refine PE.imp h fun σ H Q h => ?_
  obtain ⟨W, env, M, d, M', w, re, e, q⟩ := h
  cases e
  exact q _ _ _ (Evo.refl W) w (r W)

/-! ### two-place operations -/
abbrev Op2 := D → D → Option (D × Bool)
def eOp (f : Op2) (fa fb : EP) : EE := fun env M => match fa env M with
  | some (x, M1) => match fb env M1 with
    | some (y, M2) => (f x y).map fun r => (r, M2)
    | none => none
  | none => none
/-- f does on data what r says of values -/
def Ok2 (K : PySem.W.Frag) (r : R2) (f : Op2) : Prop := ∀ (W : Wd) (M : List MO) (H : Hp) (x y : V) (d e : D) (res : D × Bool) (Q : VK), Rw K W M H → RepP K W x d → RepP K W y e → f d e = some res →
  (∀ v H' W', Evo W W' → Rw K W' M H' → RepR K W' H' res v → Q v H') → r x y H Q
theorem tE_op {K : PySem.W.Frag} {r : R2} {f : Op2} {fa fb : EP} {σ : L2.St} {H : Hp} {Q : VK} (ok : Ok2 K r f) (h : tE K (eOp f fa fb) σ H Q) : tP K fa σ H fun x H1 => tP K fb σ H1 fun y H2 => r x y H2 Q := by
  obtain ⟨W, env, M, rr, M', w, re, e, q⟩ := h
  unfold eOp at e
  cases ha : fa env M with
  | none =>
    rw [ha] at e
    cases e
  | some p =>
    obtain ⟨x, M1⟩ := p
    rw [ha] at e
    cases hb : fb env M1 with
    | none =>
      simp only [hb] at e
      cases e
    | some p =>
      obtain ⟨y, M2⟩ := p
      simp only [hb] at e
      cases hf : f x y with
      | none =>
        rw [hf] at e
        cases e
      | some z =>
        rw [hf] at e
        cases e
        refine ⟨W, env, M, x, M1, w, re, ha, fun v1 H1 W1 e1 w1 r1 => ?_⟩
        refine ⟨W1, env, M1, y, _, w1, re.evo e1, hb, fun v2 H2 W2 e2 w2 r2 => ?_⟩
        exact ok W2 _ H2 v1 v2 x y _ Q w2 (r1.evo e2) r2 hf fun v H' W' e3 w3 r3 => q v H' W' ((e1.trans e2).trans e3) w3 r3
theorem pOp {op : Operator} {r : R2} {f : Op2} {fa fb : EP} (ho : OpR X (binaryOp op) r) (ok : Ok2 X.K r f) (ha : PE X a (tP X.K fa)) (hb : PE X b (tP X.K fb)) : PE X (.BinOp a op b pos) (tE X.K (eOp f fa fb)) :=
  PE.imp (pe_op ho ha hb) fun _ _ _ h => tE_op ok h
theorem pCmp {op : CmpOp} {r : R2} {f : Op2} {fa fb : EP} (ho : OpR X (compareOp op) r) (ok : Ok2 X.K r f) (ha : PE X a (tP X.K fa)) (hb : PE X b (tP X.K fb)) (hm : behindInMarks op b = false) : PE X (.Compare a [op] [b] pos) (tE X.K (eOp f fa fb)) :=
  PE.imp (pe_cmpR ho ha hb hm) fun _ _ _ h => tE_op ok h
theorem pIx {r : R2} {f : Op2} {fa fb : EP} (ho : IxR X r) (ok : Ok2 X.K r f) (ha : PE X a (tP X.K fa)) (hb : PE X b (tP X.K fb)) (hs : PlainIx b) : PE X (.Subscript a b pos) (tE X.K (eOp f fa fb)) :=
  PE.imp (pe_ix ho ha hb hs) fun _ _ _ h => tE_op ok h
/-- a one-place operation, a call of a builtin -/
abbrev Op1 := D → Option (D × Bool)
abbrev OpN := List D → Option (D × Bool)
def eUn (f : Op1) (fa : EP) : EE := fun env M => match fa env M with
  | some (x, M1) => (f x).map fun r => (r, M1)
  | none => none
def eCall (f : OpN) (fs : EL) : EE := fun env M => match fs env M with
  | some (xs, M1) => (f xs).map fun r => (r, M1)
  | none => none
def Ok1 (K : PySem.W.Frag) (r : V → Hp → VK → Prop) (f : Op1) : Prop := ∀ (W : Wd) (M : List MO) (H : Hp) (x : V) (d : D) (res : D × Bool) (Q : VK), Rw K W M H → RepP K W x d → f d = some res →
  (∀ v H' W', Evo W W' → Rw K W' M H' → RepR K W' H' res v → Q v H') → r x H Q
def OkN (K : PySem.W.Frag) (r : List V → Hp → VK → Prop) (f : OpN) : Prop := ∀ (W : Wd) (M : List MO) (H : Hp) (x : List V) (d : List D) (res : D × Bool) (Q : VK), Rw K W M H → RepPs K W x d → f d = some res →
  (∀ v H' W', Evo W W' → Rw K W' M H' → RepR K W' H' res v → Q v H') → r x H Q
theorem tE_un {K : PySem.W.Frag} {r : V → Hp → VK → Prop} {f : Op1} {fa : EP} {σ : L2.St} {H : Hp} {Q : VK} (ok : Ok1 K r f) (h : tE K (eUn f fa) σ H Q) : tP K fa σ H fun x H1 => r x H1 Q := by
  obtain ⟨W, env, M, rr, M', w, re, e, q⟩ := h
  unfold eUn at e
  cases ha : fa env M with
  | none =>
    rw [ha] at e
    cases e
  | some p =>
    obtain ⟨x, M1⟩ := p
    rw [ha] at e
    cases hf : f x with
    | none =>
      simp only [hf] at e
      cases e
    | some z =>
      simp only [hf] at e
      cases e
      refine ⟨W, env, M, x, _, w, re, ha, fun v1 H1 W1 e1 w1 r1 => ?_⟩
      exact ok W1 _ H1 v1 x _ Q w1 r1 hf fun v H' W' e3 w3 r3 => q v H' W' (e1.trans e3) w3 r3
theorem tE_call {K : PySem.W.Frag} {r : List V → Hp → VK → Prop} {f : OpN} {fs : EL} {σ : L2.St} {H : Hp} {Q : VK} (ok : OkN K r f) (h : tE K (eCall f fs) σ H Q) : tLP K fs σ H fun x H1 => r x H1 Q := by
  obtain ⟨W, env, M, rr, M', w, re, e, q⟩ := h
  unfold eCall at e
  cases ha : fs env M with
  | none =>
    rw [ha] at e
    cases e
  | some p =>
    obtain ⟨x, M1⟩ := p
    rw [ha] at e
    cases hf : f x with
    | none =>
      simp only [hf] at e
      cases e
    | some z =>
      simp only [hf] at e
      cases e
      refine ⟨W, env, M, x, _, w, re, ha, fun v1 H1 W1 e1 w1 r1 => ?_⟩
      exact ok W1 _ H1 v1 x _ Q w1 r1 hf fun v H' W' e3 w3 r3 => q v H' W' (e1.trans e3) w3 r3
theorem pUn {op : UnaryOp} {r : V → Hp → VK → Prop} {f : Op1} {fa : EP} (ho : UnR X (unaryOp op) r) (ok : Ok1 X.K r f) (ha : PE X a (tP X.K fa)) : PE X (.UnaryOp op a pos) (tE X.K (eUn f fa)) :=
  PE.imp (pe_un ho ha) fun _ _ _ h => tE_un ok h

/-! ### arguments -/
def eNil : EL := fun _ M => some ([], M)
def eCons (f : EP) (g : EL) : EL := fun env M => match f env M with
  | some (x, M1) => match g env M1 with
    | some (xs, M2) => some (x :: xs, M2)
    | none => none
  | none => none
theorem eCons_some {f : EP} {g : EL} {env : Env} {M M' : List MO} {ds : List D} (e : eCons f g env M = some (ds, M')) : ∃ x M1 xs, f env M = some (x, M1) ∧ g env M1 = some (xs, M') ∧ ds = x :: xs := by
  unfold eCons at e
  cases ha : f env M with
  | none =>
    rw [ha] at e
    cases e
  | some p =>
    obtain ⟨x, M1⟩ := p
    rw [ha] at e
    cases hb : g env M1 with
    | none =>
      simp only [hb] at e
      cases e
    | some p =>
      obtain ⟨xs, M2⟩ := p
      simp only [hb] at e
      cases e
      exact ⟨x, M1, xs, rfl, hb, rfl⟩
theorem RepPs.evo {K : PySem.W.Frag} {W W' : Wd} {vs : List V} {ds : List D} (h : RepPs K W vs ds) (e : Evo W W') : RepPs K W' vs ds := by
  induction h with
  | nil => exact .nil
  | cons a b ih => exact .cons (a.evo e) ih
variable {es : List Expr}
theorem pNil : PA X [] (tL X.K eNil) := PA.imp pa_nil fun σ H Q h => by
  obtain ⟨W, env, M, d, M', w, re, e, q⟩ := h
  cases e
  exact q _ _ _ (Evo.refl W) w .nil
theorem pNilP : PA X [] (tLP X.K eNil) := PA.imp pa_nil fun σ H Q h => by
  obtain ⟨W, env, M, d, M', w, re, e, q⟩ := h
  cases e
  exact q _ _ _ (Evo.refl W) w .nil
theorem pCons {f : EP} {g : EL} (ha : PE X e (tF X.K f)) (hr : PA X es (tL X.K g)) (hs : starEach (e :: es) X.env = (false, eval e X.env) :: starEach es X.env) : PA X (e :: es) (tL X.K (eCons f g)) :=
  PA.imp (pa_cons ha hr hs) fun σ H Q h => by
    obtain ⟨W, env, M, d, M', w, re, e, q⟩ := h
    obtain ⟨x, M1, xs, e1, e2, rfl⟩ := eCons_some e
    refine ⟨W, env, M, x, M1, w, re, e1, fun v1 H1 W1 v1e w1 r1 => ⟨W1, env, M1, xs, M', w1, re.evo v1e, e2, fun vs H2 W2 v2e w2 r2 => ?_⟩⟩
    exact q _ _ _ (v1e.trans v2e) w2 (.cons (r1.evo v2e) r2)
theorem pConsP {f : EP} {g : EL} (ha : PE X e (tP X.K f)) (hr : PA X es (tLP X.K g)) (hs : starEach (e :: es) X.env = (false, eval e X.env) :: starEach es X.env) : PA X (e :: es) (tLP X.K (eCons f g)) :=
  PA.imp (pa_cons ha hr hs) fun σ H Q h => by
    obtain ⟨W, env, M, d, M', w, re, e, q⟩ := h
    obtain ⟨x, M1, xs, e1, e2, rfl⟩ := eCons_some e
    refine ⟨W, env, M, x, M1, w, re, e1, fun v1 H1 W1 v1e w1 r1 => ⟨W1, env, M1, xs, M', w1, re.evo v1e, e2, fun vs H2 W2 v2e w2 r2 => ?_⟩⟩
    exact q _ _ _ (v1e.trans v2e) w2 (.cons (r1.evo v2e) r2)

/-! ### displays -/
def LIM : Nat := 2 ^ 24
theorem lim_eq : LIM = sizeLine := rfl
def eTup (f : EL) : EE := fun env M => match f env M with
  | some (xs, M1) => if xs.length ≤ LIM then some ((.tup xs, false), M1) else none
  | none => none
def eLst (f : EL) : EE := fun env M => match f env M with
  | some (xs, M1) => if xs.length ≤ LIM then some ((.lst xs, true), M1) else none
  | none => none
theorem eTup_some {f : EL} {env : Env} {M M' : List MO} {r : D × Bool} (e : eTup f env M = some (r, M')) : ∃ xs, f env M = some (xs, M') ∧ xs.length ≤ LIM ∧ r = (.tup xs, false) := by
  unfold eTup at e
  split at e
  · rename_i xs M1 h
    split at e
    · cases e
      exact ⟨xs, h, by assumption, rfl⟩
    · cases e
  · cases e
theorem eLst_some {f : EL} {env : Env} {M M' : List MO} {r : D × Bool} (e : eLst f env M = some (r, M')) : ∃ xs, f env M = some (xs, M') ∧ xs.length ≤ LIM ∧ r = (.lst xs, true) := by
  unfold eLst at e
  split at e
  · rename_i xs M1 h
    split at e
    · cases e
      exact ⟨xs, h, by assumption, rfl⟩
    · cases e
  · cases e
theorem pTup {x1 : Nat} {f : EL} (h : PA X es (tL X.K f)) : PE X (.Tuple es x1 pos) (tE X.K (eTup f)) := PE.imp (pe_tupN h) fun σ H Q h => by
  obtain ⟨W, env, M, r, M', w, re, e, q⟩ := h
  obtain ⟨xs, e1, hl, rfl⟩ := eTup_some e
  refine ⟨W, env, M, xs, M', w, re, e1, fun vs H' W' e2 w2 r2 => ⟨by rw [r2.length]; exact hl, fun p hp o ho => ?_⟩⟩
  obtain ⟨W3, e3, w3, r3⟩ := w2.newT hp o ho r2
  exact q _ _ _ (e2.trans e3) w3 (.old r3)
theorem pLst {f : EL} (h : PA X es (tL X.K f)) : PE X (.List es pos) (tE X.K (eLst f)) := PE.imp (pe_lst h) fun σ H Q h => by
  obtain ⟨W, env, M, r, M', w, re, e, q⟩ := h
  obtain ⟨xs, e1, hl, rfl⟩ := eLst_some e
  refine ⟨W, env, M, xs, M', w, re, e1, fun vs H' W' e2 w2 r2 => ⟨by rw [r2.length]; exact hl, fun p hp => ?_⟩⟩
  obtain ⟨w3, r3⟩ := w2.newL hp (.lst r2)
  exact q _ _ _ e2 w3 r3

/-! ### tests, conditional expressions -/
def tbB (f : EP) : EB := fun env M => match f env M with
  | some (.bl b, M1) => some (b, M1)
  | _ => none
theorem tbB_some {f : EP} {env : Env} {M M' : List MO} {b : Bool} (e : tbB f env M = some (b, M')) : f env M = some (.bl b, M') := by
  unfold tbB at e
  split at e
  · rename_i h
    cases e
    exact h
  · cases e
/-- a test of a value that is True or False -/
theorem tT_bool {f : EP} {σ : L2.St} {H : Hp} {K : PySem.W.Frag} {Q : Bool → Hp → Prop} (h : tT K (tbB f) σ H Q) : tTest (tF K f) σ H Q := by
  obtain ⟨W, env, M, b, M', w, re, e, q⟩ := h
  refine ⟨W, env, M, .bl b, M', w, re, tbB_some e, fun v H' W' e1 w1 r1 => ?_⟩
  cases r1
  exact ⟨b, rfl, q _ _ e1 w1⟩
def eNot (f : EB) : EB := fun env M => (f env M).map fun r => (!r.1, r.2)
theorem eNot_some {f : EB} {env : Env} {M M' : List MO} {b : Bool} (e : eNot f env M = some (b, M')) : f env M = some (!b, M') := by
  unfold eNot at e
  cases h : f env M with
  | none =>
    rw [h] at e
    cases e
  | some p =>
    rw [h] at e
    cases e
    simp
theorem ptNot {f : EB} (h : PT X a (tT X.K f)) : PT X (.UnaryOp .Not a pos) (tT X.K (eNot f)) := PT.imp (pt_not h) fun σ H Q h => by
  obtain ⟨W, env, M, b, M', w, re, e, q⟩ := h
  exact ⟨W, env, M, _, M', w, re, eNot_some e, fun H' W' e1 w1 => by show Q (!!b) H'; rw [Bool.not_not]; exact q _ _ e1 w1⟩
def bVal (f : EB) : EP := fun env M => (f env M).map fun r => (.bl r.1, r.2)
def eIf (c : EB) (f g : EE) : EE := fun env M => match c env M with
  | some (true, M1) => f env M1
  | some (false, M1) => g env M1
  | none => none
theorem tE_if {K : PySem.W.Frag} {c : EB} {f g : EE} {σ : L2.St} {H : Hp} {Q : VK} (h : tE K (eIf c f g) σ H Q) : tIf (tT K c) (tE K f) (tE K g) σ H Q := by
  obtain ⟨W, env, M, r, M', w, re, e, q⟩ := h
  unfold eIf at e
  split at e
  · rename_i M1 hc
    refine ⟨W, env, M, true, M1, w, re, hc, fun H' W' e1 w1 => ?_⟩
    refine iteT ?_
    exact ⟨W', env, M1, r, M', w1, re.evo e1, e, fun v H2 W2 e2 w2 r2 => q _ _ _ (e1.trans e2) w2 r2⟩
  · rename_i M1 hc
    refine ⟨W, env, M, false, M1, w, re, hc, fun H' W' e1 w1 => ?_⟩
    refine iteF ?_
    exact ⟨W', env, M1, r, M', w1, re.evo e1, e, fun v H2 W2 e2 w2 r2 => q _ _ _ (e1.trans e2) w2 r2⟩
  · cases e
theorem pIf {c : Expr} {fc : EB} {f g : EE} (hc : PT X c (tT X.K fc)) (ha : PE X a (tE X.K f)) (hb : PE X b (tE X.K g)) : PE X (.IfExp c a b pos) (tE X.K (eIf fc f g)) := PE.imp (pe_ifExp hc ha hb) fun _ _ _ h => tE_if h
/-- and, or as tests -/
def eAnd (f g : EB) : EB := fun env M => match f env M with
  | some (true, M1) => g env M1
  | r => r
def eOr (f g : EB) : EB := fun env M => match f env M with
  | some (false, M1) => g env M1
  | r => r
theorem tT_and {K : PySem.W.Frag} {f g : EB} {σ : L2.St} {H : Hp} {Q : Bool → Hp → Prop} (h : tT K (eAnd f g) σ H Q) : tAnd (tT K f) (tT K g) σ H Q := by
  obtain ⟨W, env, M, b, M', w, re, e, q⟩ := h
  unfold eAnd at e
  split at e
  · rename_i M1 hc
    refine ⟨W, env, M, true, M1, w, re, hc, fun H' W' e1 w1 => ?_⟩
    refine iteT ?_
    exact ⟨W', env, M1, b, M', w1, re.evo e1, e, fun H2 W2 e2 w2 => q _ _ (e1.trans e2) w2⟩
  · rename_i hc
    have hb : b = false := by
      cases b with
      | false => rfl
      | true => exact absurd e (hc M')
    subst hb
    refine ⟨W, env, M, false, M', w, re, e, fun H' W' e1 w1 => ?_⟩
    refine iteF ?_
    exact q _ _ e1 w1
theorem tT_or {K : PySem.W.Frag} {f g : EB} {σ : L2.St} {H : Hp} {Q : Bool → Hp → Prop} (h : tT K (eOr f g) σ H Q) : tOr (tT K f) (tT K g) σ H Q := by
  obtain ⟨W, env, M, b, M', w, re, e, q⟩ := h
  unfold eOr at e
  split at e
  · rename_i M1 hc
    refine ⟨W, env, M, false, M1, w, re, hc, fun H' W' e1 w1 => ?_⟩
    refine iteF ?_
    exact ⟨W', env, M1, b, M', w1, re.evo e1, e, fun H2 W2 e2 w2 => q _ _ (e1.trans e2) w2⟩
  · rename_i hc
    have hb : b = true := by
      cases b with
      | true => rfl
      | false => exact absurd e (hc M')
    subst hb
    refine ⟨W, env, M, true, M', w, re, e, fun H' W' e1 w1 => ?_⟩
    refine iteT ?_
    exact q _ _ e1 w1
theorem PW.imp {X : Cx} {e : Expr} {t t' : TT} (h : PW X e t) (i : ∀ σ H Q, t' σ H Q → t σ H Q) : PW X e t' := ⟨fun wh pins s σ H Q I q => h.run wh pins s σ H Q I (i σ H Q q)⟩
variable {rest : List Expr}
theorem pwAnd {f g : EB} (ha : PT X a (tT X.K f)) (hb : PW X (.BoolOp .And (b :: rest) pos) (tT X.K g)) : PW X (.BoolOp .And (a :: b :: rest) pos) (tT X.K (eAnd f g)) := PW.imp (pw_and ha hb) fun _ _ _ h => tT_and h
theorem pwOr {f g : EB} (ha : PT X a (tT X.K f)) (hb : PW X (.BoolOp .Or (b :: rest) pos) (tT X.K g)) : PW X (.BoolOp .Or (a :: b :: rest) pos) (tT X.K (eOr f g)) := PW.imp (pw_or ha hb) fun _ _ _ h => tT_or h
/-- and, or as values: all but the last True or False -/
def vAnd (f : EB) (g : EE) : EE := fun env M => match f env M with
  | some (true, M1) => g env M1
  | some (false, M1) => some ((.bl false, false), M1)
  | none => none
def vOr (f : EB) (g : EE) : EE := fun env M => match f env M with
  | some (false, M1) => g env M1
  | some (true, M1) => some ((.bl true, false), M1)
  | none => none
theorem pAnd {f : EP} {g : EE} (ha : PE X a (tF X.K f)) (hb : PE X (.BoolOp .And (b :: rest) pos) (tE X.K g)) : PE X (.BoolOp .And (a :: b :: rest) pos) (tE X.K (vAnd (tbB f) g)) := PE.imp (pe_and ha hb) fun σ H Q h => by
  obtain ⟨W, env, M, r, M', w, re, e, q⟩ := h
  unfold vAnd at e
  split at e
  · rename_i M1 hc
    refine ⟨W, env, M, .bl true, M1, w, re, tbB_some hc, fun v H' W' e1 w1 r1 => ?_⟩
    cases r1
    refine ⟨true, rfl, ?_⟩
    refine iteT ?_
    exact ⟨W', env, M1, r, M', w1, re.evo e1, e, fun v H2 W2 e2 w2 r2 => q _ _ _ (e1.trans e2) w2 r2⟩
  · rename_i M1 hc
    cases e
    refine ⟨W, env, M, .bl false, _, w, re, tbB_some hc, fun v H' W' e1 w1 r1 => ?_⟩
    cases r1
    refine ⟨false, rfl, ?_⟩
    refine iteF ?_
    exact q _ _ _ e1 w1 (.old (.bl _))
  · cases e
theorem pOr {f : EP} {g : EE} (ha : PE X a (tF X.K f)) (hb : PE X (.BoolOp .Or (b :: rest) pos) (tE X.K g)) : PE X (.BoolOp .Or (a :: b :: rest) pos) (tE X.K (vOr (tbB f) g)) := PE.imp (pe_or ha hb) fun σ H Q h => by
  obtain ⟨W, env, M, r, M', w, re, e, q⟩ := h
  unfold vOr at e
  split at e
  · rename_i M1 hc
    refine ⟨W, env, M, .bl false, M1, w, re, tbB_some hc, fun v H' W' e1 w1 r1 => ?_⟩
    cases r1
    refine ⟨false, rfl, ?_⟩
    refine iteF ?_
    exact ⟨W', env, M1, r, M', w1, re.evo e1, e, fun v H2 W2 e2 w2 r2 => q _ _ _ (e1.trans e2) w2 r2⟩
  · rename_i M1 hc
    cases e
    refine ⟨W, env, M, .bl true, _, w, re, tbB_some hc, fun v H' W' e1 w1 r1 => ?_⟩
    cases r1
    refine ⟨true, rfl, ?_⟩
    refine iteT ?_
    exact q _ _ _ e1 w1 (.old (.bl _))
  · cases e
/-- not as a value -/
theorem pNotV {f : EP} (ha : PE X a (tF X.K f)) : PE X (.UnaryOp .Not a pos) (tF X.K (bVal (eNot (tbB f)))) := PE.imp (pe_not ha) fun σ H Q h => by
  obtain ⟨W, env, M, d, M', w, re, e, q⟩ := h
  unfold bVal at e
  cases hc : eNot (tbB f) env M with
  | none =>
    rw [hc] at e
    cases e
  | some p =>
    obtain ⟨k, M1⟩ := p
    rw [hc] at e
    cases e
    have z := tbB_some (eNot_some hc)
    refine ⟨W, env, M, _, _, w, re, z, fun v H' W' e1 w1 r1 => ?_⟩
    cases r1
    exact ⟨_, rfl, by rw [Bool.not_not]; exact q _ _ _ e1 w1 (.bl _)⟩
end
end R

set_option Elab.async false
set_option linter.all false
set_option maxRecDepth 100000
set_option maxHeartbeats 2000000
/-! R3: the operations on data -/
namespace R
open PySem PySem.Spec PyProof.Rows L2

/-! ### data as the library's data -/
mutual
def D.py : D → PyData
  | .non => .none
  | .bl b => .bool b
  | .int i => .int i
  | .str s => .str s
  | .tup xs => .tuple (D.pys xs)
  | .lst xs => .list (D.pys xs)
  | .scr xs => .list (D.pys xs)
  | .dct _ _ => .dict []
  | .obj _ => .dict []
def D.pys : List D → List PyData
  | [] => []
  | x :: xs => D.py x :: D.pys xs
end
mutual
/-- no dicts and living objects within -/
def D.pure : D → Bool
  | .non => true | .bl _ => true | .int _ => true | .str _ => true
  | .tup xs => D.pures xs
  | .lst xs => D.pures xs
  | .scr xs => D.pures xs
  | .dct _ _ => false
  | .obj _ => false
def D.pures : List D → Bool
  | [] => true
  | x :: xs => D.pure x && D.pures xs
end
mutual
def D.depth : D → Nat
  | .tup xs => D.depths xs + 1
  | .lst xs => D.depths xs + 1
  | .scr xs => D.depths xs + 1
  | _ => 0
def D.depths : List D → Nat
  | [] => 0
  | x :: xs => max (D.depth x) (D.depths xs)
end
mutual
theorem D.depth_py : ∀ d : D, d.pure = true → d.py.depth = d.depth
  | .non, _ => rfl
  | .bl _, _ => rfl
  | .int _, _ => rfl
  | .str _, _ => rfl
  | .tup xs, h => by simp only [D.py, PyData.depth, D.depth]; rw [D.depths_py xs (by simpa [D.pure] using h)]
  | .lst xs, h => by simp only [D.py, PyData.depth, D.depth]; rw [D.depths_py xs (by simpa [D.pure] using h)]
  | .scr xs, h => by simp only [D.py, PyData.depth, D.depth]; rw [D.depths_py xs (by simpa [D.pure] using h)]
  | .dct _ _, h => by simp [D.pure] at h
  | .obj _, h => by simp [D.pure] at h
theorem D.depths_py : ∀ ds : List D, D.pures ds = true → PyData.depthAll (D.pys ds) = D.depths ds
  | [], _ => rfl
  | x :: xs, h => by
    simp only [D.pures, Bool.and_eq_true] at h
    simp only [D.pys, PyData.depthAll, D.depths]
    rw [D.depth_py x h.1, D.depths_py xs h.2]
end
section
variable {K : PySem.W.Frag} {G H : Hp} {al : List Addr}
mutual
theorem Rep.dp (l : Le G H) : ∀ {v : V} {d : D}, Rep K G al v d → d.pure = true → Dp K H v d.py ∧ PyData.canLay0 d.py = true
  | _, _, .non, _ => ⟨.non, rfl⟩
  | _, _, .bl b, _ => ⟨.bl b, rfl⟩
  | _, _, .int i, _ => ⟨.int i, rfl⟩
  | _, _, .str x h, _ => ⟨.str x, by simpa [D.py, PyData.canLay0] using h⟩
  | _, _, .tup h n r, q => by
    obtain ⟨a, b⟩ := Reps.dp l r (by simpa [D.pure] using q)
    exact ⟨.tup (l.sqT h) a, by simpa [D.py, PyData.canLay0] using b⟩
  | _, _, .lst h r, q => by
    obtain ⟨a, b⟩ := Reps.dp l r (by simpa [D.pure] using q)
    exact ⟨.lst (.inl (.inl (l _ _ h))) a, by simpa [D.py, PyData.canLay0] using b⟩
  | _, _, .scr h r, q => by
    obtain ⟨a, b⟩ := Reps.dp l r (by simpa [D.pure] using q)
    exact ⟨.lst (l.sqL h) a, by simpa [D.py, PyData.canLay0] using b⟩
  | _, _, .dct _ _, q => by simp [D.pure] at q
  | _, _, .obj _, q => by simp [D.pure] at q
theorem Reps.dp (l : Le G H) : ∀ {vs : List V} {ds : List D}, Reps K G al vs ds → D.pures ds = true → DpAll K H vs (D.pys ds) ∧ PyData.canLayAll0 (D.pys ds) = true
  | _, _, .nil, _ => ⟨.nil, rfl⟩
  | _, _, .cons h r, q => by
    simp only [D.pures, Bool.and_eq_true] at q
    obtain ⟨a, b⟩ := Rep.dp l h q.1
    obtain ⟨c, d⟩ := Reps.dp l r q.2
    exact ⟨.cons a c, by simp [D.pys, PyData.canLayAll0, b, d]⟩
end
end
/-- equality of data, as the program's == sees it -/
def D.eqv (d e : D) : Bool := PyData.eqv d.py e.py
def D.okEq (d e : D) : Bool := d.pure && e.pure && decide (min d.depth e.depth ≤ 64)
section
variable {K : PySem.W.Frag} {W : Wd} {M : List MO} {H : Hp} {v : V}
theorem RepP.dp {d : D} (w : Rw K W M H) (h : RepP K W v d) (p : d.pure = true) : Dp K H v d.py ∧ PyData.canLay0 d.py = true := by
  cases h with
  | fz h => exact Rep.dp w.g h p
  | own h r =>
    cases r with
    | lst r =>
      obtain ⟨a, b⟩ := Reps.dp w.g r (by simpa [D.pure] using p)
      exact ⟨.lst (.inl (.inl (w.o _ _ h))) a, by simpa [D.py, PyData.canLay0] using b⟩
    | dct r => simp [D.pure] at p
end

/-! ### == and != -/
def rEqX (K : PySem.W.Frag) : R2 := fun x y H Q => ∃ d e, Dp K H x d ∧ Dp K H y e ∧ PyData.canLay0 d = true ∧ PyData.canLay0 e = true ∧ min d.depth e.depth ≤ 64 ∧ Q (.bl (PyData.eqv d e)) H
def rNeX (K : PySem.W.Frag) : R2 := fun x y H Q => ∃ d e, Dp K H x d ∧ Dp K H y e ∧ PyData.canLay0 d = true ∧ PyData.canLay0 e = true ∧ min d.depth e.depth ≤ 64 ∧ Q (.bl (!PyData.eqv d e)) H
section
variable {X : Cx}
theorem op_eqX (hu : X.A.units + 64 < cLine) : OpR X (compareOp .Eq) (rEqX X.K) := by
  intro pins s σ H x y v u Q I rx ry h
  obtain ⟨d, e, hd, he, sd, se, hm, q⟩ := h
  obtain ⟨as, r1⟩ := Dp.reads I d x v hd rx
  obtain ⟨bs, r2⟩ := Dp.reads I e y u he ry
  exact SeqAt.compareEq_reads r1 r2 sd se (by omega) ⟨.bl _, H, I, rfl, q⟩
theorem op_neX (hu : X.A.units + 64 < cLine) : OpR X (compareOp .NotEq) (rNeX X.K) := by
  intro pins s σ H x y v u Q I rx ry h
  obtain ⟨d, e, hd, he, sd, se, hm, q⟩ := h
  obtain ⟨as, r1⟩ := Dp.reads I d x v hd rx
  obtain ⟨bs, r2⟩ := Dp.reads I e y u he ry
  exact SeqAt.compareNe_reads r1 r2 sd se (by omega) ⟨.bl _, H, I, rfl, q⟩
end
def dEq : Op2 := fun d e => if d.okEq e then some (.bl (d.eqv e), false) else none
def dNe : Op2 := fun d e => if d.okEq e then some (.bl (!d.eqv e), false) else none
theorem okEq_of {d e : D} (h : d.okEq e = true) : d.pure = true ∧ e.pure = true ∧ min d.py.depth e.py.depth ≤ 64 := by
  unfold D.okEq at h
  simp only [Bool.and_eq_true, decide_eq_true_eq] at h
  obtain ⟨⟨h1, h2⟩, h3⟩ := h
  refine ⟨h1, h2, ?_⟩
  rw [D.depth_py d h1, D.depth_py e h2]
  exact h3
/-- the result is a plain value -/
theorem done_bl {K : PySem.W.Frag} {W : Wd} {M : List MO} {H : Hp} {b : Bool} {Q : VK} (w : Rw K W M H) (q : ∀ v H' W', Evo W W' → Rw K W' M H' → RepR K W' H' (.bl b, false) v → Q v H') : Q (.bl b) H := q _ _ _ (Evo.refl W) w (.old (.bl b))
theorem done_int {K : PySem.W.Frag} {W : Wd} {M : List MO} {H : Hp} {b : Int} {Q : VK} (w : Rw K W M H) (q : ∀ v H' W', Evo W W' → Rw K W' M H' → RepR K W' H' (.int b, false) v → Q v H') : Q (.int b) H := q _ _ _ (Evo.refl W) w (.old (.int b))
theorem ok_eq {K : PySem.W.Frag} : Ok2 K (rEqX K) dEq := by
  intro W M H x y d e res Q w rx ry h q
  unfold dEq at h
  split at h
  · rename_i hk
    cases h
    obtain ⟨p1, p2, p3⟩ := okEq_of hk
    obtain ⟨a1, a2⟩ := rx.dp w p1
    obtain ⟨b1, b2⟩ := ry.dp w p2
    exact ⟨_, _, a1, b1, a2, b2, p3, done_bl w q⟩
  · cases h
theorem ok_ne {K : PySem.W.Frag} : Ok2 K (rNeX K) dNe := by
  intro W M H x y d e res Q w rx ry h q
  unfold dNe at h
  split at h
  · rename_i hk
    cases h
    obtain ⟨p1, p2, p3⟩ := okEq_of hk
    obtain ⟨a1, a2⟩ := rx.dp w p1
    obtain ⟨b1, b2⟩ := ry.dp w p2
    exact ⟨_, _, a1, b1, a2, b2, p3, done_bl w q⟩
  · cases h

/-! ### is None -/
def D.isNon : D → Bool
  | .non => true
  | _ => false
def dIs : Op2 := fun d e => if e.isNon then some (.bl d.isNon, false) else none
def dIsNot : Op2 := fun d e => if e.isNon then some (.bl (!d.isNon), false) else none
theorem RepP.isNon {K : PySem.W.Frag} {W : Wd} {v : V} {d : D} (h : RepP K W v d) : decide (v = .non) = d.isNon := by
  cases h with
  | fz h => cases h <;> rfl
  | own h r => cases r <;> rfl
theorem ok_is {K : PySem.W.Frag} : Ok2 K (fun x y H Q => y = .non ∧ Q (.bl (decide (x = .non))) H) dIs := by
  intro W M H x y d e res Q w rx ry h q
  unfold dIs at h
  split at h
  · rename_i hk
    cases h
    have e1 : y = .non := of_decide_eq_true (ry.isNon.trans hk)
    refine ⟨e1, ?_⟩
    rw [rx.isNon]
    exact done_bl w q
  · cases h
theorem ok_isNot {K : PySem.W.Frag} : Ok2 K (fun x y H Q => y = .non ∧ Q (.bl (!decide (x = .non))) H) dIsNot := by
  intro W M H x y d e res Q w rx ry h q
  unfold dIsNot at h
  split at h
  · rename_i hk
    cases h
    have e1 : y = .non := of_decide_eq_true (ry.isNon.trans hk)
    refine ⟨e1, ?_⟩
    rw [rx.isNon]
    exact done_bl w q
  · cases h

/-! ### order of ints, texts, tuples and lists of data -/
def okOrd (d e : D) : Bool := d.pure && e.pure && PySem.W.alike d.py e.py && (match d with
  | .tup _ => true
  | .lst _ => true
  | _ => false) && decide (min d.depth e.depth ≤ 64)
def dOrd (fi : Int → Int → Bool) (fs : Str → Str → Bool) (fd : PyData → PyData → Bool) : Op2
  | .int i, .int j => some (.bl (fi i j), false)
  | .str x, .str y => some (.bl (fs x y), false)
  | d, e => if okOrd d e then some (.bl (fd d.py e.py), false) else none
def rDat (K : PySem.W.Frag) (fd : PyData → PyData → Bool) : R2 := fun x y H Q => ∃ da db, Dp K H x da ∧ Dp K H y db ∧ PySem.W.alike da db = true ∧ da ≠ .none ∧ min da.depth db.depth ≤ 64 ∧ Q (.bl (fd da db)) H
def rOrd (K : PySem.W.Frag) (fi : Int → Int → Bool) (fs : Str → Str → Bool) (fd : PyData → PyData → Bool) : R2 := fun x y H Q => ((∃ i j, x = .int i ∧ y = .int j ∧ Q (.bl (fi i j)) H) ∨ (∃ i j, x = .str i ∧ y = .str j ∧ Q (.bl (fs i j)) H)) ∨ rDat K fd x y H Q
theorem ok_ord {K : PySem.W.Frag} {fi : Int → Int → Bool} {fs : Str → Str → Bool} {fd : PyData → PyData → Bool} : Ok2 K (rOrd K fi fs fd) (dOrd fi fs fd) := by
  intro W M H x y d e res Q w rx ry h q
  unfold dOrd at h
  split at h
  · cases h
    exact .inl (.inl ⟨_, _, rx.int, ry.int, done_bl w q⟩)
  · cases h
    exact .inl (.inr ⟨_, _, rx.str.1, ry.str.1, done_bl w q⟩)
  · split at h
    · rename_i hk
      cases h
      unfold okOrd at hk
      simp only [Bool.and_eq_true, decide_eq_true_eq] at hk
      obtain ⟨⟨⟨⟨p1, p2⟩, p3⟩, p4⟩, p5⟩ := hk
      obtain ⟨a1, _⟩ := rx.dp w p1
      obtain ⟨b1, _⟩ := ry.dp w p2
      refine .inr ⟨_, _, a1, b1, p3, fun z => ?_, by rw [D.depth_py _ p1, D.depth_py _ p2]; exact p5, done_bl w q⟩
      split at p4
      · simp [D.py] at z
      · simp [D.py] at z
      · cases p4
    · cases h
def ltS (x y : Str) : Bool := decide (x.cps.toList < y.cps.toList)
section
variable {X : Cx}
theorem op_ltDat (hu : X.A.units + 70 < cLine) : OpR X (compareOp .Lt) (rDat X.K PySem.W.dataLt) := by
  intro pins s σ H x y v u Q I rx ry h
  obtain ⟨da, db, hd, he, ha, hn, hm, q⟩ := h
  obtain ⟨as, r1⟩ := Dp.reads I da x v hd rx
  obtain ⟨bs, r2⟩ := Dp.reads I db y u he ry
  exact PySem.W.lt_data r1 r2 ha hn (by omega) ⟨.bl _, H, I, rfl, q⟩
theorem op_leDat (hu : X.A.units + 70 < cLine) : OpR X (compareOp .LtE) (rDat X.K fun a b => !PySem.W.dataLt b a) := by
  intro pins s σ H x y v u Q I rx ry h
  obtain ⟨da, db, hd, he, ha, hn, hm, q⟩ := h
  obtain ⟨as, r1⟩ := Dp.reads I da x v hd rx
  obtain ⟨bs, r2⟩ := Dp.reads I db y u he ry
  exact PySem.W.le_data r1 r2 ha hn (by omega) ⟨.bl _, H, I, rfl, q⟩
theorem op_gtDat (hu : X.A.units + 70 < cLine) : OpR X (compareOp .Gt) (rDat X.K fun a b => PySem.W.dataLt b a) := by
  intro pins s σ H x y v u Q I rx ry h
  obtain ⟨da, db, hd, he, ha, hn, hm, q⟩ := h
  obtain ⟨as, r1⟩ := Dp.reads I da x v hd rx
  obtain ⟨bs, r2⟩ := Dp.reads I db y u he ry
  exact PySem.W.gt_data r1 r2 ha hn (by omega) ⟨.bl _, H, I, rfl, q⟩
theorem op_geDat (hu : X.A.units + 70 < cLine) : OpR X (compareOp .GtE) (rDat X.K fun a b => !PySem.W.dataLt a b) := by
  intro pins s σ H x y v u Q I rx ry h
  obtain ⟨da, db, hd, he, ha, hn, hm, q⟩ := h
  obtain ⟨as, r1⟩ := Dp.reads I da x v hd rx
  obtain ⟨bs, r2⟩ := Dp.reads I db y u he ry
  exact PySem.W.ge_data r1 r2 ha hn (by omega) ⟨.bl _, H, I, rfl, q⟩
theorem op_ltX (hu : X.A.units + 70 < cLine) : OpR X (compareOp .Lt) (rOrd X.K (fun i j => decide (i < j)) ltS PySem.W.dataLt) := OpR.or (OpR.or op_lt op_lt_str) (op_ltDat hu)
theorem op_leX (hu : X.A.units + 70 < cLine) : OpR X (compareOp .LtE) (rOrd X.K (fun i j => decide (i ≤ j)) (fun x y => !ltS y x) fun a b => !PySem.W.dataLt b a) := OpR.or (OpR.or op_le op_le_str) (op_leDat hu)
theorem op_gtX (hu : X.A.units + 70 < cLine) : OpR X (compareOp .Gt) (rOrd X.K (fun i j => decide (j < i)) (fun x y => ltS y x) fun a b => PySem.W.dataLt b a) := OpR.or (OpR.or op_gt op_gt_str) (op_gtDat hu)
theorem op_geX (hu : X.A.units + 70 < cLine) : OpR X (compareOp .GtE) (rOrd X.K (fun i j => decide (j ≤ i)) (fun x y => !ltS x y) fun a b => !PySem.W.dataLt a b) := OpR.or (OpR.or op_ge op_ge_str) (op_geDat hu)
end
def dLt : Op2 := dOrd (fun i j => decide (i < j)) ltS PySem.W.dataLt
def dLe : Op2 := dOrd (fun i j => decide (i ≤ j)) (fun x y => !ltS y x) fun a b => !PySem.W.dataLt b a
def dGt : Op2 := dOrd (fun i j => decide (j < i)) (fun x y => ltS y x) fun a b => PySem.W.dataLt b a
def dGe : Op2 := dOrd (fun i j => decide (j ≤ i)) (fun x y => !ltS x y) fun a b => !PySem.W.dataLt a b

/-! ### + -/
theorem strOk_app {x y : Str} (hx : PyData.strOk x = true) (hy : PyData.strOk y = true) : PyData.strOk (x ++ y) = true := by
  unfold PyData.strOk at *
  have e : (x ++ y).cps = x.cps ++ y.cps := rfl
  rw [e, Array.all_append, hx, hy]
  rfl
def dAdd : Op2
  | .int i, .int j => some (.int (i + j), false)
  | .str x, .str y => if x.length + y.length ≤ LIM then some (.str (x ++ y), false) else none
  | .tup xs, .tup ys => if xs.length + ys.length ≤ LIM then some (.tup (xs ++ ys), false) else none
  | .lst xs, .lst ys => if xs.length + ys.length ≤ LIM then some (.lst (xs ++ ys), true) else none
  | _, _ => none
def rAddX (K : PySem.W.Frag) : R2 := fun x y H Q => (rI0 (fun i j => .int (i + j)) x y H Q ∨ (∃ i j, x = .str i ∧ y = .str j ∧ i.length + j.length ≤ sizeLine ∧ Q (.str (i ++ j)) H)) ∨ (rCatN K x y H Q ∨ rCat x y H Q)
theorem op_addX {X : Cx} : OpR X (binaryOp .Add) (rAddX X.K) := OpR.or (OpR.or op_add op_add_str) (OpR.or op_catN op_cat)
theorem Reps.nil_iff {K : PySem.W.Frag} {G : Hp} {al : List Addr} {vs : List V} {ds : List D} (r : Reps K G al vs ds) : vs = [] ↔ ds = [] := by
  cases r <;> simp
theorem ok_add {K : PySem.W.Frag} : Ok2 K (rAddX K) dAdd := by
  intro W M H x y d e res Q w rx ry h q
  unfold dAdd at h
  split at h
  · cases h
    exact .inl (.inl ⟨_, _, rx.int, ry.int, done_int w q⟩)
  · split at h
    · rename_i hl
      cases h
      obtain ⟨e1, o1⟩ := rx.str
      obtain ⟨e2, o2⟩ := ry.str
      exact .inl (.inr ⟨_, _, e1, e2, hl, q _ _ _ (Evo.refl W) w (.old (.str _ (strOk_app o1 o2)))⟩)
    · cases h
  · split at h
    · rename_i hl
      cases h
      obtain ⟨a, vs, rfl, h1, r1⟩ := rx.tup w
      obtain ⟨b, us, rfl, h2, r2⟩ := ry.tup w
      refine .inr (.inl ⟨a, b, vs, us, rfl, rfl, h1, h2, by rw [r1.length, r2.length]; exact hl, fun z => ?_, fun _ z => ?_, fun _ _ p hp o ho => ?_⟩)
      · have z' := r1.nil_iff.mp z
        subst z'
        cases ry with
        | fz ry => exact q _ _ _ (Evo.refl W) w (.old ry)
        | own hh rr => cases rr
      · have z' := r2.nil_iff.mp z
        subst z'
        rw [List.append_nil] at q
        cases rx with
        | fz rx => exact q _ _ _ (Evo.refl W) w (.old rx)
        | own hh rr => cases rr
      · obtain ⟨W3, e3, w3, r3⟩ := w.newT hp o ho (r1.append r2)
        exact q _ _ _ e3 w3 (.old r3)
    · cases h
  · split at h
    · rename_i hl
      cases h
      obtain ⟨a, vs, rfl, h1, r1⟩ := rx.lst w
      obtain ⟨b, us, rfl, h2, r2⟩ := ry.lst w
      refine .inr (.inr ⟨a, b, vs, us, rfl, rfl, h1, h2, by rw [r1.length, r2.length]; exact hl, fun p hp => ?_⟩)
      obtain ⟨w3, r3⟩ := w.newL hp (.lst (r1.append r2))
      exact q _ _ _ (Evo.refl W) w3 r3
    · cases h
  · cases h

/-! ### the other operators of ints; a list times an int -/
def dSub : Op2
  | .int i, .int j => some (.int (i - j), false)
  | _, _ => none
theorem ok_sub {K : PySem.W.Frag} : Ok2 K (rI0 fun i j => .int (i - j)) dSub := by
  intro W M H x y d e res Q w rx ry h q
  unfold dSub at h
  split at h
  · cases h
    exact ⟨_, _, rx.int, ry.int, done_int w q⟩
  · cases h
def dDiv : Op2
  | .int i, .int j => if 0 < j ∧ j < 1073741824 then some (.int (i / j), false) else none
  | _, _ => none
theorem ok_div {K : PySem.W.Frag} : Ok2 K (rI CDiv fun i j => .int (i / j)) dDiv := by
  intro W M H x y d e res Q w rx ry h q
  unfold dDiv at h
  split at h
  · split at h
    · rename_i hc
      cases h
      exact ⟨_, _, rx.int, ry.int, hc, done_int w q⟩
    · cases h
  · cases h
def dMod : Op2
  | .int i, .int j => if 0 < j then some (.int (i % j), false) else none
  | _, _ => none
theorem ok_mod {K : PySem.W.Frag} : Ok2 K (rI (fun _ j => 0 < j) fun i j => .int (i % j)) dMod := by
  intro W M H x y d e res Q w rx ry h q
  unfold dMod at h
  split at h
  · split at h
    · rename_i hc
      cases h
      exact ⟨_, _, rx.int, ry.int, hc, done_int w q⟩
    · cases h
  · cases h
def dPow : Op2
  | .int i, .int j => if 0 ≤ j ∧ j ≤ 1000000 ∧ i.natAbs < 2 ^ 64 then some (.int (i ^ j.toNat), false) else none
  | _, _ => none
theorem ok_pow {K : PySem.W.Frag} : Ok2 K (rI CPow fun i j => .int (i ^ j.toNat)) dPow := by
  intro W M H x y d e res Q w rx ry h q
  unfold dPow at h
  split at h
  · split at h
    · rename_i hc
      cases h
      exact ⟨_, _, rx.int, ry.int, hc, done_int w q⟩
    · cases h
  · cases h
theorem Reps.rep {K : PySem.W.Frag} {G : Hp} {al : List Addr} {vs : List V} {ds : List D} (r : Reps K G al vs ds) : ∀ n : Nat, Reps K G al (List.replicate n vs).flatten (List.replicate n ds).flatten
  | 0 => .nil
  | n + 1 => by
    rw [List.replicate_succ, List.replicate_succ, List.flatten_cons, List.flatten_cons]
    exact r.append (r.rep n)
def dMul : Op2
  | .int i, .int j => if (-(2 ^ 64) < i ∧ i < 2 ^ 64) ∨ (-(2 ^ 64) < j ∧ j < 2 ^ 64) then some (.int (i * j), false) else none
  | .lst xs, .int k => if -(2 ^ 63) ≤ k ∧ k < 2 ^ 63 ∧ xs.length * k.toNat ≤ LIM then some (.lst (List.replicate k.toNat xs).flatten, true) else none
  | .tup xs, .int k => if 2 ≤ k ∧ k ≤ 1000 ∧ 0 < xs.length ∧ xs.length ≤ 1000 then some (.tup (List.replicate k.toNat xs).flatten, false) else none
  | _, _ => none
def rMulX (K : PySem.W.Frag) : R2 := fun x y H Q => (rI CMul (fun i j => .int (i * j)) x y H Q ∨ rRep x y H Q) ∨ rRepN K x y H Q
theorem op_mulX {X : Cx} : OpR X (binaryOp .Mult) (rMulX X.K) := OpR.or (OpR.or op_mul op_rep) op_repN
theorem ok_mul {K : PySem.W.Frag} : Ok2 K (rMulX K) dMul := by
  intro W M H x y d e res Q w rx ry h q
  unfold dMul at h
  split at h
  · split at h
    · rename_i hc
      cases h
      exact .inl (.inl ⟨_, _, rx.int, ry.int, hc, done_int w q⟩)
    · cases h
  · split at h
    · rename_i hc
      cases h
      obtain ⟨a, vs, rfl, h1, r1⟩ := rx.lst w
      refine .inl (.inr ⟨a, _, vs, rfl, ry.int, h1, hc.1, hc.2.1, by rw [r1.length]; exact hc.2.2, fun p hp => ?_⟩)
      obtain ⟨w3, r3⟩ := w.newL hp (.lst (r1.rep _))
      exact q _ _ _ (Evo.refl W) w3 r3
    · cases h
  · split at h
    · rename_i hc
      cases h
      obtain ⟨a, vs, rfl, h1, r1⟩ := rx.tup w
      have hl := r1.length
      refine .inr ⟨a, _, vs, rfl, ry.int, h1, fun z => ?_, hc.1, hc.2.1, by omega, fun p hp o ho => ?_⟩
      · subst z
        rw [← hl] at hc
        exact absurd hc.2.2.1 (by decide)
      · obtain ⟨W3, e3, w3, r3⟩ := w.newT hp o ho (r1.rep _)
        exact q _ _ _ e3 w3 (.old r3)
    · cases h
  · cases h
def dNeg : Op1
  | .int i => some (.int (-i), false)
  | _ => none
theorem ok_neg {K : PySem.W.Frag} : Ok1 K (rU fun i => .int (-i)) dNeg := by
  intro W M H x d res Q w rx h q
  unfold dNeg at h
  split at h
  · cases h
    exact ⟨_, rx.int, done_int w q⟩
  · cases h

/-! ### subscripts, slices -/
def D.key : D → Option Key
  | .int i => some (.inl i)
  | .str x => some (.inr x)
  | _ => none
/-- what a dict has for a key -/
def dctGet : List Key → List D → Key → Option D
  | k :: ks, d :: ds, j => if k = j then some d else dctGet ks ds j
  | _, _, _ => none
theorem RepP.key {K : PySem.W.Frag} {W : Wd} {v : V} {d : D} {k : Key} (r : RepP K W v d) (h : d.key = some k) : v = kV k := by
  unfold D.key at h
  split at h
  · cases h
    exact r.int
  · cases h
    exact r.str.1
  · cases h
theorem dctGet_some {K : PySem.W.Frag} {G : Hp} {al : List Addr} {k : Key} {d : D} : ∀ {kvs : List (Key × V)} {ds : List D}, Reps K G al (kvs.map (·.2)) ds → dctGet (kvs.map (·.1)) ds k = some d → ∃ v, valV kvs k = some v ∧ Rep K G al v d
  | [], _, r, h => by
    unfold dctGet at h
    cases h
  | p :: kvs, _, .cons r rs, h => by
    unfold dctGet at h
    rw [List.map_cons] at h
    dsimp only at h
    split at h
    · rename_i e
      cases h
      exact ⟨_, valV_pos e, r⟩
    · rename_i e
      obtain ⟨v, h1, h2⟩ := dctGet_some rs h
      exact ⟨v, by rw [valV_neg e]; exact h1, h2⟩
theorem dctGet_none {K : PySem.W.Frag} {G : Hp} {al : List Addr} {k : Key} : ∀ {kvs : List (Key × V)} {ds : List D}, Reps K G al (kvs.map (·.2)) ds → dctGet (kvs.map (·.1)) ds k = none → valV kvs k = none
  | [], _, r, h => rfl
  | p :: kvs, _, .cons r rs, h => by
    unfold dctGet at h
    rw [List.map_cons] at h
    dsimp only at h
    split at h
    · cases h
    · rename_i e
      rw [valV_neg e]
      exact dctGet_none rs h
def dIx : Op2
  | .tup xs, .int i => (atI xs i).map fun d => (d, false)
  | .lst xs, .int i => (atI xs i).map fun d => (d, false)
  | .scr xs, .int i => (atI xs i).map fun d => (d, false)
  | .dct ks ds, y => match y.key with
    | some k => (dctGet ks ds k).map fun d => (d, false)
    | none => none
  | _, _ => none
theorem Reps.atI {K : PySem.W.Frag} {G : Hp} {al : List Addr} {vs : List V} {ds : List D} {i : Int} {d : D} (r : Reps K G al vs ds) (h : L2.atI ds i = some d) : ∃ v, L2.atI vs i = some v ∧ Rep K G al v d := by
  unfold L2.atI at *
  rw [r.length]
  cases e : ixN ds.length i with
  | none =>
    rw [e] at h
    cases h
  | some j =>
    rw [e] at h
    exact r.get h
def rIxDc : R2 := fun x y H Q => ∃ a v, x = .ref a ∧ DGet H a y (some v) ∧ Q v H
theorem ix_dct {X : Cx} (hu : X.A.units + 70 < cLine) : IxR X rIxDc := by
  intro value slice pins s σ H x y v u Q I rx ry h hs
  obtain ⟨a, z, rfl, g, q⟩ := h
  obtain rfl : v = Value.ref a := rx
  exact tail_any (dict_typeIs I g) PySem.F.slot_dict_getitem.lookup (d_getItem (by omega) I g ry fun w' s' I' rw' => ⟨z, H, I', rw', q⟩) hs
def rIxX (K : PySem.W.Frag) : R2 := fun x y H Q => rIxL K x y H Q ∨ (rIxT K x y H Q ∨ rIxDc x y H Q)
theorem ix_X {X : Cx} (hu : X.A.units + 70 < cLine) : IxR X (rIxX X.K) := IxR.or ix_list (IxR.or ix_tup (ix_dct hu))
theorem ok_ix {K : PySem.W.Frag} : Ok2 K (rIxX K) dIx := by
  intro W M H x y d e res Q w rx ry h q
  unfold dIx at h
  split at h
  · rename_i xs i
    obtain ⟨z, ha, rfl⟩ := Option.map_eq_some_iff.mp h
    obtain ⟨a, vs, rfl, h1, r1⟩ := rx.tup w
    obtain ⟨v, e1, e2⟩ := r1.atI ha
    exact .inr (.inl ⟨a, vs, i, v, rfl, ry.int, h1, e1, q _ _ _ (Evo.refl W) w (.old e2)⟩)
  · rename_i xs i
    obtain ⟨z, ha, rfl⟩ := Option.map_eq_some_iff.mp h
    obtain ⟨a, vs, rfl, h1, r1⟩ := rx.lst w
    obtain ⟨v, e1, e2⟩ := r1.atI ha
    exact .inl ⟨a, vs, i, v, rfl, ry.int, .inl (.inl h1), e1, q _ _ _ (Evo.refl W) w (.old e2)⟩
  · rename_i xs i
    obtain ⟨z, ha, rfl⟩ := Option.map_eq_some_iff.mp h
    obtain ⟨a, vs, rfl, h1, r1⟩ := rx.scr w
    obtain ⟨v, e1, e2⟩ := r1.atI ha
    exact .inl ⟨a, vs, i, v, rfl, ry.int, h1, e1, q _ _ _ (Evo.refl W) w (.old e2)⟩
  · rename_i ks ds
    split at h
    · rename_i k hk
      obtain ⟨z, ha, rfl⟩ := Option.map_eq_some_iff.mp h
      obtain ⟨a, kvs, rfl, h1, rfl, r1⟩ := rx.dct w
      obtain ⟨v, e1, e2⟩ := dctGet_some r1 ha
      exact .inr (.inr ⟨a, v, rfl, by rw [ry.key hk, ← e1]; exact DGet.k h1, q _ _ _ (Evo.refl W) w (.old e2)⟩)
    · cases h
  · cases h
/-- the items between two places -/
def cutD {α : Type} (xs : List α) (lo hi : Option Int) : List α := (xs.drop (HT.sIx xs.length 0 lo)).take (HT.sIx xs.length xs.length hi - HT.sIx xs.length 0 lo)
theorem Reps.cut {K : PySem.W.Frag} {G : Hp} {al : List Addr} {vs : List V} {ds : List D} {lo hi : Option Int} (r : Reps K G al vs ds) : Reps K G al (cutV vs lo hi) (cutD ds lo hi) := by
  unfold cutV cutD
  rw [r.length]
  exact (r.drop _).take _
theorem cutD_whole {α : Type} {xs : List α} {lo hi : Option Int} (h : HT.sIx xs.length 0 lo = 0 ∧ HT.sIx xs.length xs.length hi = xs.length) : cutD xs lo hi = xs := by
  unfold cutD
  rw [h.1, h.2, List.drop_zero, Nat.sub_zero, List.take_length]
def dSl (lo hi : Option Int) : Op1
  | .tup xs => some (.tup (cutD xs lo hi), false)
  | .lst xs => some (.lst (cutD xs lo hi), true)
  | .scr xs => some (.lst (cutD xs lo hi), true)
  | _ => none
def rSlX (K : PySem.W.Frag) : V → Option Int → Option Int → Hp → VK → Prop := fun x lo hi H Q => rSlN K x lo hi H Q ∨ rSlL K x lo hi H Q
theorem sl_X {X : Cx} : SlR X (rSlX X.K) := SlR.or sl_tupN sl_list
theorem ok_sl {K : PySem.W.Frag} {lo hi : Option Int} : Ok1 K (fun x => rSlX K x lo hi) (dSl lo hi) := by
  intro W M H x d res Q w rx h q
  unfold dSl at h
  split at h
  · cases h
    obtain ⟨a, vs, rfl, h1, r1⟩ := rx.tup w
    have hl := r1.length
    refine .inl ⟨a, vs, rfl, h1, fun hw => ?_, fun _ p hp o ho => ?_⟩
    · rw [hl] at hw
      rw [cutD_whole hw] at q
      cases rx with
      | fz rx => exact q _ _ _ (Evo.refl W) w (.old rx)
      | own hh rr => cases rr
    · obtain ⟨W3, e3, w3, r3⟩ := w.newT hp o ho (r1.cut (lo := lo) (hi := hi))
      exact q _ _ _ e3 w3 (.old r3)
  · cases h
    obtain ⟨a, vs, rfl, h1, r1⟩ := rx.lst w
    refine .inr ⟨a, vs, rfl, .inl (.inl h1), fun p hp => ?_⟩
    obtain ⟨w3, r3⟩ := w.newL hp (.lst (r1.cut (lo := lo) (hi := hi)))
    exact q _ _ _ (Evo.refl W) w3 r3
  · cases h
    obtain ⟨a, vs, rfl, h1, r1⟩ := rx.scr w
    refine .inr ⟨a, vs, rfl, h1, fun p hp => ?_⟩
    obtain ⟨w3, r3⟩ := w.newL hp (.lst (r1.cut (lo := lo) (hi := hi)))
    exact q _ _ _ (Evo.refl W) w3 r3
  · cases h
/-- a part of a slice -/
abbrev EO := Env → List MO → Option (Option Int × List MO)
def eNoP : EO := fun _ M => some (none, M)
def eSomeP (f : EP) : EO := fun env M => match f env M with
  | some (.int i, M1) => some (some i, M1)
  | _ => none
def tO (K : PySem.W.Frag) (f : EO) : TO := fun σ H Q => ∃ W env M o M', Rw K W M H ∧ Re K W env σ ∧ f env M = some (o, M') ∧ ∀ H' W', Evo W W' → Rw K W' M' H' → Q o H'
theorem PO.imp {X : Cx} {e : Option Expr} {t t' : TO} (h : PO X e t) (i : ∀ σ H Q, t' σ H Q → t σ H Q) : PO X e t' := ⟨fun pins s σ H Q I q => h.run pins s σ H Q I (i σ H Q q)⟩
def eSl (f : EP) (lo hi : EO) : EE := fun env M => match f env M with
  | some (x, M1) => match lo env M1 with
    | some (a, M2) => match hi env M2 with
      | some (b, M3) => (dSl a b x).map fun r => (r, M3)
      | none => none
    | none => none
  | none => none
section
variable {X : Cx}
theorem poNone : PO X none (tO X.K eNoP) := PO.imp po_none fun σ H Q h => by
  obtain ⟨W, env, M, d, M', w, re, e, q⟩ := h
  cases e
  exact q _ _ (Evo.refl W) w
theorem poSome {e : Expr} {f : EP} (h : PE X e (tP X.K f)) : PO X (some e) (tO X.K (eSomeP f)) := PO.imp (po_some h) fun σ H Q h => by
  obtain ⟨W, env, M, d, M', w, re, e, q⟩ := h
  unfold eSomeP at e
  split at e
  · rename_i i M1 hf
    cases e
    exact ⟨W, env, M, _, _, w, re, hf, fun v H' W' e1 w1 r1 => ⟨i, r1.int, q _ _ e1 w1⟩⟩
  · cases e
theorem pSl {e : Expr} {lo hi : Option Expr} {p2 pos : Pos} {f : EP} {fl fh : EO} (he : PE X e (tP X.K f)) (hl : PO X lo (tO X.K fl)) (hu : PO X hi (tO X.K fh)) : PE X (.Subscript e (.Slice lo hi none p2) pos) (tE X.K (eSl f fl fh)) := PE.imp (pe_slice sl_X he hl hu) fun σ H Q h => by
  obtain ⟨W, env, M, r, M', w, re, e, q⟩ := h
  unfold eSl at e
  split at e
  · rename_i x M1 e1
    split at e
    · rename_i a M2 e2
      split at e
      · rename_i b M3 e3
        cases hd : dSl a b x with
        | none =>
          rw [hd] at e
          cases e
        | some z =>
          rw [hd] at e
          cases e
          refine ⟨W, env, M, x, M1, w, re, e1, fun v1 H1 W1 v1e w1 r1 => ⟨W1, env, M1, a, M2, w1, re.evo v1e, e2, fun H2 W2 v2e w2 => ⟨W2, env, M2, b, _, w2, (re.evo v1e).evo v2e, e3, fun H3 W3 v3e w3 => ?_⟩⟩⟩
          exact ok_sl W3 _ H3 v1 x _ Q w3 ((r1.evo v2e).evo v3e) hd fun v H' W' v4e w4 r4 => q _ _ _ (((v1e.trans v2e).trans v3e).trans v4e) w4 r4
      · cases e
    · cases e
  · cases e
end

/-! ### truth -/
def D.truth : D → Option Bool
  | .non => some false
  | .bl b => some b
  | .int i => some (i != 0)
  | .str y => if y.length ≤ LIM then some ((y.length : Int) != 0) else none
  | .tup xs => some (!xs.isEmpty)
  | .lst xs => some (!xs.isEmpty)
  | .scr xs => some (!xs.isEmpty)
  | .dct ks _ => some (!ks.isEmpty)
  | .obj _ => none
theorem RepP.truth {K : PySem.W.Frag} {W : Wd} {M : List MO} {H : Hp} {v : V} {d : D} {b : Bool} (w : Rw K W M H) (h : RepP K W v d) (e : d.truth = some b) : TruV K v H b := by
  have em : ∀ {vs : List V} {ds : List D}, RepsW K W vs ds → ds.isEmpty = vs.isEmpty := fun {vs ds} r => by cases r <;> rfl
  cases d with
  | non =>
    rw [h.non]
    cases e
    rfl
  | bl k =>
    rw [h.bl]
    cases e
    rfl
  | int i =>
    rw [h.int]
    cases e
    rfl
  | str y =>
    rw [h.str.1]
    simp only [D.truth] at e
    split at e
    · cases e
      exact ⟨by assumption, rfl⟩
    · cases e
  | tup xs =>
    obtain ⟨a, vs, rfl, h1, r1⟩ := h.tup w
    cases e
    exact .inr (.inl ⟨vs, h1, by rw [em r1]⟩)
  | lst xs =>
    obtain ⟨a, vs, rfl, h1, r1⟩ := h.lst w
    cases e
    exact .inl ⟨vs, .inl (.inl h1), by rw [em r1]⟩
  | scr xs =>
    obtain ⟨a, vs, rfl, h1, r1⟩ := h.scr w
    cases e
    exact .inl ⟨vs, h1, by rw [em r1]⟩
  | dct ks ds =>
    obtain ⟨a, kvs, rfl, h1, rfl, r1⟩ := h.dct w
    cases e
    exact .inr (.inr ⟨kvs, h1, by rw [List.isEmpty_map]⟩)
  | obj n => cases e
def tbV (f : EP) : EB := fun env M => match f env M with
  | some (d, M1) => d.truth.map fun b => (b, M1)
  | none => none
theorem ptVal {X : Cx} {a : Expr} {f : EP} (ha : PE X a (tP X.K f)) (he : ∀ whole, isTrue a X.env whole = (do let v ← whole; standAt a.pos; holding [v] (truthy v))) : PT X a (tT X.K (tbV f)) := PT.imp (pt_truth ha he) fun σ H Q h => by
  obtain ⟨W, env, M, b, M', w, re, e, q⟩ := h
  unfold tbV at e
  split at e
  · rename_i d M1 hf
    cases hd : d.truth with
    | none =>
      rw [hd] at e
      cases e
    | some k =>
      rw [hd] at e
      cases e
      exact ⟨W, env, M, d, _, w, re, hf, fun v H' W' e1 w1 r1 => ⟨_, r1.truth w1 hd, q _ _ e1 w1⟩⟩
  · cases e
end R

set_option Elab.async false
set_option linter.all false
set_option maxRecDepth 100000
set_option maxHeartbeats 2000000
/-! R4: calls of built-in functions -/
namespace R
open PySem PySem.Spec PyProof.Rows L2

def plainE : Expr → Bool
  | .Starred .. => false
  | _ => true
theorem star_cons {e : Expr} {es : List Expr} {env : PySem.Env} (h : plainE e = true) : starEach (e :: es) env = (false, eval e env) :: starEach es env := by
  cases e <;> first | rfl | cases h
theorem back_any {pos : Pos} {env : PySem.Env} : ∀ {es : List Expr}, es.all plainE = true → (backTo pos (starEach es env)).any (·.1) = false
  | [], _ => rfl
  | e :: es, h => by
    rw [List.all_cons, Bool.and_eq_true] at h
    rw [star_cons h.1]
    have ih := back_any (pos := pos) (env := env) h.2
    unfold backTo at ih ⊢
    rw [List.map_cons, List.any_cons, ih]
    rfl
section
variable {X : Cx} {x : Str} {p pos : Pos} {e : Expr} {es : List Expr}
theorem pCallB {id : String} {r : List V → Hp → VK → Prop} {f : OpN} {fs : EL} (hc : CallR X (.builtin id) r) (ok : OkN X.K r f) (hg : Gl X x) (hm : X.mg x = none) (hv : bootBuiltins x = some (.builtin id)) (hn : x ≠ "__name__") (hdb : (x == ("__debug__" : Str)) = false)
    (hp : (e :: es).all plainE = true) (ha : PA X (e :: es) (tLP X.K fs)) : PE X (.Call (.Name x p) (e :: es) [] pos) (tE X.K (eCall f fs)) := by
  rw [List.all_cons, Bool.and_eq_true] at hp
  exact PE.imp (pe_callB hc hg hm hv ha hn hdb (star_cons hp.1) (back_any hp.2)) fun _ _ _ h => tE_call ok h
theorem pCallTy {id : String} {r : List V → Hp → VK → Prop} {f : OpN} {fs : EL} (hc : CallR X (.type id) r) (ok : OkN X.K r f) (hg : Gl X x) (hm : X.mg x = none) (hv : bootBuiltins x = some (.type id)) (hn : x ≠ "__name__") (hdb : (x == ("__debug__" : Str)) = false)
    (hp : (e :: es).all plainE = true) (ha : PA X (e :: es) (tLP X.K fs)) : PE X (.Call (.Name x p) (e :: es) [] pos) (tE X.K (eCall f fs)) := by
  rw [List.all_cons, Bool.and_eq_true] at hp
  exact PE.imp (pe_callTy hc hg hm hv ha hn hdb (star_cons hp.1) (back_any hp.2)) fun _ _ _ h => tE_call ok h
end
theorem OkN.or1 {K : PySem.W.Frag} {r r' : List V → Hp → VK → Prop} {f : OpN} (h : OkN K r f) : OkN K (fun xs H Q => r xs H Q ∨ r' xs H Q) f := fun W M H x d res Q w r h1 q => .inl (h W M H x d res Q w r h1 q)

/-! ### len -/
def dLen : OpN
  | [.tup xs] => some (.int (xs.length : Nat), false)
  | [.lst xs] => some (.int (xs.length : Nat), false)
  | [.scr xs] => some (.int (xs.length : Nat), false)
  | [.str s] => if s.length ≤ LIM then some (.int (s.length : Nat), false) else none
  | [.dct ks _] => some (.int (ks.length : Nat), false)
  | _ => none
def rLenX (K : PySem.W.Frag) : List V → Hp → VK → Prop := fun xs H Q => ((∃ p ys, xs = [.ref p] ∧ (SqL K H p ys ∨ SqT K H p ys) ∧ Q (.int ys.length) H) ∨ (∃ z, xs = [.str z] ∧ z.length ≤ sizeLine ∧ Q (.int z.length) H)) ∨ (∃ a kvs, xs = [V.ref a] ∧ H a = some (.dK kvs) ∧ Q (.int kvs.length) H)
theorem call_lenX {X : Cx} : CallR X (.builtin "len") (rLenX X.K) := CallR.or (CallR.or call_len_seq call_len_str) call_lenD
theorem ok_len {K : PySem.W.Frag} : OkN K (rLenX K) dLen := by
  intro W M H x d res Q w rs h q
  unfold dLen at h
  split at h
  · cases h
    obtain ⟨v, rfl, r⟩ := RepP.one rs
    obtain ⟨a, vs, rfl, h1, r1⟩ := r.tup w
    refine .inl (.inl ⟨a, vs, rfl, .inr h1, ?_⟩)
    rw [r1.length]
    exact done_int w q
  · cases h
    obtain ⟨v, rfl, r⟩ := RepP.one rs
    obtain ⟨a, vs, rfl, h1, r1⟩ := r.lst w
    refine .inl (.inl ⟨a, vs, rfl, .inl (.inl (.inl h1)), ?_⟩)
    rw [r1.length]
    exact done_int w q
  · cases h
    obtain ⟨v, rfl, r⟩ := RepP.one rs
    obtain ⟨a, vs, rfl, h1, r1⟩ := r.scr w
    refine .inl (.inl ⟨a, vs, rfl, .inl h1, ?_⟩)
    rw [r1.length]
    exact done_int w q
  · split at h
    · rename_i hl
      cases h
      obtain ⟨v, rfl, r⟩ := RepP.one rs
      obtain ⟨rfl, _⟩ := r.str
      exact .inl (.inr ⟨_, rfl, hl, done_int w q⟩)
    · cases h
  · cases h
    obtain ⟨v, rfl, r⟩ := RepP.one rs
    obtain ⟨a, kvs, rfl, h1, rfl, r1⟩ := r.dct w
    refine .inr ⟨a, kvs, rfl, h1, ?_⟩
    rw [List.length_map] at q
    exact done_int w q
  · cases h

/-! ### tuple, list -/
def dTuple : OpN
  | [.tup xs] => some (.tup xs, false)
  | [.lst xs] => some (.tup xs, false)
  | [.scr xs] => some (.tup xs, false)
  | _ => none
theorem ok_tuple {K : PySem.W.Frag} : OkN K (fun xs H Q => ∃ p ys, xs = [.ref p] ∧ ((SqL K H p ys ∧ TQ Q H ys) ∨ (SqT K H p ys ∧ Q (.ref p) H))) dTuple := by
  intro W M H x d res Q w rs h q
  unfold dTuple at h
  split at h
  · cases h
    obtain ⟨v, rfl, r⟩ := RepP.one rs
    obtain ⟨a, vs, rfl, h1, r1⟩ := r.tup w
    refine ⟨a, vs, rfl, .inr ⟨h1, ?_⟩⟩
    cases r with
    | fz r => exact q _ _ _ (Evo.refl W) w (.old r)
    | own hh rr => cases rr
  · cases h
    obtain ⟨v, rfl, r⟩ := RepP.one rs
    obtain ⟨a, vs, rfl, h1, r1⟩ := r.lst w
    refine ⟨a, vs, rfl, .inl ⟨.inl (.inl h1), fun p hp o ho => ?_⟩⟩
    obtain ⟨W3, e3, w3, r3⟩ := w.newT hp o ho r1
    exact q _ _ _ e3 w3 (.old r3)
  · cases h
    obtain ⟨v, rfl, r⟩ := RepP.one rs
    obtain ⟨a, vs, rfl, h1, r1⟩ := r.scr w
    refine ⟨a, vs, rfl, .inl ⟨h1, fun p hp o ho => ?_⟩⟩
    obtain ⟨W3, e3, w3, r3⟩ := w.newT hp o ho r1
    exact q _ _ _ e3 w3 (.old r3)
  · cases h
def dList : OpN
  | [.tup xs] => some (.lst xs, true)
  | [.lst xs] => some (.lst xs, true)
  | [.scr xs] => some (.lst xs, true)
  | _ => none
theorem ok_list {K : PySem.W.Frag} : OkN K (fun xs H Q => ∃ p ys, xs = [.ref p] ∧ (SqL K H p ys ∨ SqT K H p ys) ∧ ∀ l, H l = none → Q (.ref l) (upd H l (.lst ys))) dList := by
  intro W M H x d res Q w rs h q
  unfold dList at h
  split at h
  · cases h
    obtain ⟨v, rfl, r⟩ := RepP.one rs
    obtain ⟨a, vs, rfl, h1, r1⟩ := r.tup w
    refine ⟨a, vs, rfl, .inr h1, fun p hp => ?_⟩
    obtain ⟨w3, r3⟩ := w.newL hp (.lst r1)
    exact q _ _ _ (Evo.refl W) w3 r3
  · cases h
    obtain ⟨v, rfl, r⟩ := RepP.one rs
    obtain ⟨a, vs, rfl, h1, r1⟩ := r.lst w
    refine ⟨a, vs, rfl, .inl (.inl (.inl h1)), fun p hp => ?_⟩
    obtain ⟨w3, r3⟩ := w.newL hp (.lst r1)
    exact q _ _ _ (Evo.refl W) w3 r3
  · cases h
    obtain ⟨v, rfl, r⟩ := RepP.one rs
    obtain ⟨a, vs, rfl, h1, r1⟩ := r.scr w
    refine ⟨a, vs, rfl, .inl h1, fun p hp => ?_⟩
    obtain ⟨w3, r3⟩ := w.newL hp (.lst r1)
    exact q _ _ _ (Evo.refl W) w3 r3
  · cases h

/-! ### all, any, sum, max, min, int, abs -/
def asBls : List D → Option (List Bool)
  | [] => some []
  | .bl b :: r => (asBls r).map fun bs => b :: bs
  | _ => none
def asInts : List D → Option (List Int)
  | [] => some []
  | .int b :: r => (asInts r).map fun bs => b :: bs
  | _ => none
section
variable {K : PySem.W.Frag} {G : Hp} {al : List Addr}
theorem Reps.bls : ∀ {vs : List V} {ds : List D} {bs : List Bool}, Reps K G al vs ds → asBls ds = some bs → vs = bs.map V.bl
  | _, [], _, .nil, h => by
    cases h
    rfl
  | _, d :: ds, bs, .cons a r, h => by
    cases d with
    | bl b =>
      cases a
      unfold asBls at h
      cases e : asBls ds with
      | none =>
        rw [e] at h
        cases h
      | some cs =>
        rw [e] at h
        cases h
        rw [Reps.bls r e]
        rfl
    | _ => cases h
theorem Reps.ints : ∀ {vs : List V} {ds : List D} {bs : List Int}, Reps K G al vs ds → asInts ds = some bs → vs = bs.map V.int
  | _, [], _, .nil, h => by
    cases h
    rfl
  | _, d :: ds, bs, .cons a r, h => by
    cases d with
    | int b =>
      cases a
      unfold asInts at h
      cases e : asInts ds with
      | none =>
        rw [e] at h
        cases h
      | some cs =>
        rw [e] at h
        cases h
        rw [Reps.ints r e]
        rfl
    | _ => cases h
theorem asBls_map (bs : List Bool) : asBls (bs.map D.bl) = some bs := by
  induction bs with
  | nil => rfl
  | cons b r ih =>
    rw [List.map_cons]
    unfold asBls
    rw [ih]
    rfl
theorem asInts_map (bs : List Int) : asInts (bs.map D.int) = some bs := by
  induction bs with
  | nil => rfl
  | cons b r ih =>
    rw [List.map_cons]
    unfold asInts
    rw [ih]
    rfl
end
def dAll : OpN
  | [.lst xs] => (asBls xs).map fun bs => (.bl (bs.all id), false)
  | _ => none
def dAny : OpN
  | [.lst xs] => (asBls xs).map fun bs => (.bl (bs.any id), false)
  | _ => none
def dSum : OpN
  | [.lst xs] => (asInts xs).map fun bs => (.int bs.sum, false)
  | _ => none
theorem ok_all {K : PySem.W.Frag} : OkN K (rAll K) dAll := by
  intro W M H x d res Q w rs h q
  unfold dAll at h
  split at h
  · obtain ⟨v, rfl, r⟩ := RepP.one rs
    obtain ⟨a, vs, rfl, h1, r1⟩ := r.lst w
    rename_i xs
    cases e : asBls xs with
    | none =>
      rw [e] at h
      cases h
    | some bs =>
      rw [e] at h
      cases h
      have z := r1.bls e
      subst z
      exact ⟨a, bs, rfl, .inl (.inl h1), done_bl w q⟩
  · cases h
theorem ok_any {K : PySem.W.Frag} : OkN K (rAny K) dAny := by
  intro W M H x d res Q w rs h q
  unfold dAny at h
  split at h
  · obtain ⟨v, rfl, r⟩ := RepP.one rs
    obtain ⟨a, vs, rfl, h1, r1⟩ := r.lst w
    rename_i xs
    cases e : asBls xs with
    | none =>
      rw [e] at h
      cases h
    | some bs =>
      rw [e] at h
      cases h
      have z := r1.bls e
      subst z
      exact ⟨a, bs, rfl, .inl (.inl h1), done_bl w q⟩
  · cases h
theorem ok_sum {K : PySem.W.Frag} : OkN K (rSum K) dSum := by
  intro W M H x d res Q w rs h q
  unfold dSum at h
  split at h
  · obtain ⟨v, rfl, r⟩ := RepP.one rs
    obtain ⟨a, vs, rfl, h1, r1⟩ := r.lst w
    rename_i xs
    cases e : asInts xs with
    | none =>
      rw [e] at h
      cases h
    | some bs =>
      rw [e] at h
      cases h
      have z := r1.ints e
      subst z
      exact ⟨a, bs, rfl, .inl (.inl h1), done_int w q⟩
  · cases h
def dMax2 : OpN
  | [.int i, .int j] => some (.int (if j > i then j else i), false)
  | _ => none
def dMin2 : OpN
  | [.int i, .int j] => some (.int (if j < i then j else i), false)
  | _ => none
theorem ok_max2 {K : PySem.W.Frag} : OkN K (fun xs H Q => ∃ i j, xs = [.int i, .int j] ∧ Q (.int (if j > i then j else i)) H) dMax2 := by
  intro W M H x d res Q w rs h q
  unfold dMax2 at h
  split at h
  · cases h
    obtain ⟨v, u, rfl, r, r'⟩ := RepPs.two rs
    rw [r.int, r'.int]
    exact ⟨_, _, rfl, done_int w q⟩
  · cases h
theorem ok_min2 {K : PySem.W.Frag} : OkN K (fun xs H Q => ∃ i j, xs = [.int i, .int j] ∧ Q (.int (if j < i then j else i)) H) dMin2 := by
  intro W M H x d res Q w rs h q
  unfold dMin2 at h
  split at h
  · cases h
    obtain ⟨v, u, rfl, r, r'⟩ := RepPs.two rs
    rw [r.int, r'.int]
    exact ⟨_, _, rfl, done_int w q⟩
  · cases h
def dInt : OpN
  | [.int i] => some (.int i, false)
  | [.bl k] => some (.int (if k then 1 else 0), false)
  | _ => none
theorem ok_int {K : PySem.W.Frag} : OkN K (fun xs H Q => (∃ i, xs = [.int i] ∧ Q (.int i) H) ∨ ∃ k, xs = [.bl k] ∧ Q (.int (if k then 1 else 0)) H) dInt := by
  intro W M H x d res Q w rs h q
  unfold dInt at h
  split at h
  · cases h
    obtain ⟨v, rfl, r⟩ := RepP.one rs
    rw [r.int]
    exact .inl ⟨_, rfl, done_int w q⟩
  · cases h
    obtain ⟨v, rfl, r⟩ := RepP.one rs
    rw [r.bl]
    exact .inr ⟨_, rfl, done_int w q⟩
  · cases h
def dAbs : OpN
  | [.int i] => some (.int (if i < 0 then -i else i), false)
  | _ => none
theorem ok_abs {K : PySem.W.Frag} : OkN K (fun xs H Q => ∃ i, xs = [.int i] ∧ Q (.int (if i < 0 then -i else i)) H) dAbs := by
  intro W M H x d res Q w rs h q
  unfold dAbs at h
  split at h
  · cases h
    obtain ⟨v, rfl, r⟩ := RepP.one rs
    rw [r.int]
    exact ⟨_, rfl, done_int w q⟩
  · cases h

/-! ### isinstance(x, T) -/
def D.tyName : D → Option String
  | .non => some "NoneType"
  | .bl _ => some "bool"
  | .int _ => some "int"
  | .str _ => some "str"
  | .tup _ => some "tuple"
  | .lst _ => some "list"
  | .scr _ => some "list"
  | .dct _ _ => some "dict"
  | .obj _ => none
theorem RepP.tyX {K : PySem.W.Frag} {W : Wd} {M : List MO} {H : Hp} {v : V} {d : D} {t : String} (w : Rw K W M H) (h : RepP K W v d) (e : d.tyName = some t) : TyX K H v (.type t) := by
  cases d with
  | non =>
    rw [h.non]
    cases e
    exact .base .non
  | bl b =>
    rw [h.bl]
    cases e
    exact .base (.bl b)
  | int b =>
    rw [h.int]
    cases e
    exact .base (.int b)
  | str b =>
    rw [h.str.1]
    cases e
    exact .base (.str b)
  | tup xs =>
    obtain ⟨a, vs, rfl, h1, r1⟩ := h.tup w
    cases e
    rcases h1 with (h1 | ⟨o, h1⟩) | ⟨o, its, n, h1, hc, _⟩
    · exact .base (.tup h1)
    · exact .fTuple h1
    · exact .kTuple h1 hc
  | lst xs =>
    obtain ⟨a, vs, rfl, h1, r1⟩ := h.lst w
    cases e
    exact .base (.lst h1)
  | scr xs =>
    obtain ⟨a, vs, rfl, h1, r1⟩ := h.scr w
    cases e
    rcases h1 with (h1 | ⟨o, h1⟩) | ⟨o, its, n, h1, hc, _⟩
    · exact .base (.lst h1)
    · exact .base (.frz h1)
    · exact .kList h1 hc
  | dct ks ds =>
    obtain ⟨a, kvs, rfl, h1, _, r1⟩ := h.dct w
    cases e
    exact .base (.dK h1)
  | obj n => cases e
def dIsi (T : String) : Op1 := fun d => match d.tyName with
  | some t => if t = "int" ∧ T = "int" ∨ t = "bool" ∧ T = "bool" ∨ t = "str" ∧ T = "str" ∨ t = "tuple" ∧ T = "tuple" ∨ t = "bool" ∧ T = "int" then some (.bl true, false)
    else (kitB t T).map fun b => (.bl b, false)
  | none => none
theorem kit_int : kitB "int" "int" = some true := by decide +kernel
theorem kit_bool : kitB "bool" "bool" = some true := by decide +kernel
theorem kit_str : kitB "str" "str" = some true := by decide +kernel
theorem kit_tuple : kitB "tuple" "tuple" = some true := by decide +kernel
theorem kit_bool_int : kitB "bool" "int" = some true := by decide +kernel
theorem dIsi_some {T : String} {d : D} {res : D × Bool} (h : dIsi T d = some res) : ∃ t b, d.tyName = some t ∧ kitB t T = some b ∧ res = (.bl b, false) := by
  unfold dIsi at h
  split at h
  · rename_i t ht
    split at h
    · rename_i hc
      cases h
      refine ⟨t, true, ht, ?_, rfl⟩
      rcases hc with ⟨rfl, rfl⟩ | ⟨rfl, rfl⟩ | ⟨rfl, rfl⟩ | ⟨rfl, rfl⟩ | ⟨rfl, rfl⟩
      · exact kit_int
      · exact kit_bool
      · exact kit_str
      · exact kit_tuple
      · exact kit_bool_int
    · cases hb : kitB t T with
      | none =>
        rw [hb] at h
        cases h
      | some b =>
        rw [hb] at h
        cases h
        exact ⟨t, b, ht, hb, rfl⟩
  · cases h
section
variable {X : Cx} {x y : Str} {p p2 pos : Pos} {e : Expr}
theorem pIsi {T : String} {fa : EP} (hg : Gl X x) (hm : X.mg x = none) (hx : x = "isinstance") (hg2 : Gl X y) (hm2 : X.mg y = none) (hv2 : bootBuiltins y = some (.type T)) (hn2 : y ≠ "__name__") (hdb2 : (y == ("__debug__" : Str)) = false)
    (hp : plainE e = true) (ha : PE X e (tP X.K fa)) : PE X (.Call (.Name x p) [e, .Name y p2] [] pos) (tE X.K (eUn (dIsi T) fa)) := by
  subst hx
  refine PE.imp (pe_callB call_isi hg hm (by decide +kernel) (pa_cons ha (pa_cons (pe_bltn (v := .ty T) hg2 hm2 hv2 rfl hn2 hdb2) pa_nil) (star_cons hp)) (by decide) (by decide) (star_cons hp) (back_any (by rfl))) fun σ H Q h => ?_
  have h2 := tE_un (K := X.K) (r := fun v H Q => ∃ (t : Value) (b : Bool), TyX X.K H v t ∧ PySem.W.kitOne X.K t (.type T) = some b ∧ Q (.bl b) H) (f := dIsi T) (fun W M H v d res Q w r h q => by
    obtain ⟨t, b, h1, h2, rfl⟩ := dIsi_some h
    exact ⟨.type t, b, r.tyX w h1, kit_ty h2, done_bl w q⟩) h
  obtain ⟨W, env, M, d, M', w, re, e1, q⟩ := h2
  refine ⟨W, env, M, d, M', w, re, e1, fun v H' W' v1 w1 r1 => ?_⟩
  obtain ⟨t, b, a1, a2, a3⟩ := q v H' W' v1 w1 r1
  exact ⟨v, .ty T, t, .type T, b, rfl, .ty T, a1, a2, a3⟩
end

/-! ### in -/
theorem eqvs_any (ds : List D) (d : D) : ((D.pys ds).any fun z => PyData.eqv z d.py) = ds.any fun z => z.eqv d := by
  induction ds with
  | nil => rfl
  | cons x r ih =>
    simp only [D.pys, List.any_cons, ih]
    rfl
def rInX (K : PySem.W.Frag) (neg : Bool) : R2 := fun x y H Q => ∃ d ds, Dp K H x d ∧ (Dp K H y (.list ds) ∨ Dp K H y (.tuple ds)) ∧ d.canLay0 = true ∧ PyData.canLayAll0 ds = true ∧ min (PyData.depthAll ds) d.depth ≤ 64 ∧ Q (.bl (if neg then !(ds.any fun z => PyData.eqv z d) else (ds.any fun z => PyData.eqv z d))) H
section
variable {X : Cx}
theorem op_inX (hu : X.A.units + 66 < cLine) : OpR X (compareOp .In) (rInX X.K false) := by
  intro pins s σ H x y v u Q I rx ry h
  obtain ⟨d, ds, hd, he, sd, se, hm, q⟩ := h
  obtain ⟨as, r1⟩ := Dp.reads I d x v hd rx
  rcases he with he | he
  · obtain ⟨bs, r2⟩ := Dp.reads I (.list ds) y u he ry
    exact SeqAt.in_list_reads r2 r1 se sd (by omega) ⟨.bl _, H, I, rfl, q⟩
  · obtain ⟨bs, r2⟩ := Dp.reads I (.tuple ds) y u he ry
    exact SeqAt.in_tuple_reads r2 r1 se sd (by omega) ⟨.bl _, H, I, rfl, q⟩
theorem op_notInX (hu : X.A.units + 66 < cLine) : OpR X (compareOp .NotIn) (rInX X.K true) := by
  intro pins s σ H x y v u Q I rx ry h
  obtain ⟨d, ds, hd, he, sd, se, hm, q⟩ := h
  obtain ⟨as, r1⟩ := Dp.reads I d x v hd rx
  rcases he with he | he
  · obtain ⟨bs, r2⟩ := Dp.reads I (.list ds) y u he ry
    exact SeqAt.notIn_list_reads r2 r1 se sd (by omega) ⟨.bl _, H, I, rfl, q⟩
  · obtain ⟨bs, r2⟩ := Dp.reads I (.tuple ds) y u he ry
    exact SeqAt.notIn_tuple_reads r2 r1 se sd (by omega) ⟨.bl _, H, I, rfl, q⟩
end
def D.okIn (d : D) (ds : List D) : Bool := d.pure && D.pures ds && decide (min (D.depths ds) d.depth ≤ 64)
/-- is x one of xs -/
def D.has (d : D) (ds : List D) : Bool := ds.any fun z => z.eqv d
theorem eval_any (ds : List D) (d : D) : ((D.pys ds).any fun z => PyData.eqv z d.py) = d.has ds := eqvs_any ds d
def dIn (neg : Bool) : Op2
  | d, .tup ds => if d.okIn ds then some (.bl (if neg then !d.has ds else d.has ds), false) else none
  | d, .lst ds => if d.okIn ds then some (.bl (if neg then !d.has ds else d.has ds), false) else none
  | .str x, .str y => some (.bl (if neg then !(!(Builtin.Str.occurrences y x 0 y.length 1).isEmpty) else !(Builtin.Str.occurrences y x 0 y.length 1).isEmpty), false)
  | x, .dct ks ds => match x.key with
    | some k => some (.bl (if neg then !(dctGet ks ds k).isSome else (dctGet ks ds k).isSome), false)
    | none => none
  | _, _ => none
theorem okIn_of {d : D} {ds : List D} (h : d.okIn ds = true) : d.pure = true ∧ D.pures ds = true ∧ min (PyData.depthAll (D.pys ds)) d.py.depth ≤ 64 := by
  unfold D.okIn at h
  simp only [Bool.and_eq_true, decide_eq_true_eq] at h
  obtain ⟨⟨h1, h2⟩, h3⟩ := h
  refine ⟨h1, h2, ?_⟩
  rw [D.depth_py d h1, D.depths_py ds h2]
  exact h3
def rInS (neg : Bool) : R2 := fun x y H Q => ∃ i j, x = .str i ∧ y = .str j ∧ Q (.bl (if neg then !(!(Builtin.Str.occurrences j i 0 j.length 1).isEmpty) else !(Builtin.Str.occurrences j i 0 j.length 1).isEmpty)) H
def rInDc (neg : Bool) : R2 := fun y x H Q => ∃ a o, x = .ref a ∧ DGet H a y o ∧ Q (.bl (if neg then !o.isSome else o.isSome)) H
theorem op_inDc {X : Cx} (hu : X.A.units + 70 < cLine) : OpR X (compareOp .In) (rInDc false) := by
  intro pins s σ H y x u v Q I ry rx h
  obtain ⟨a, o, rfl, g, q⟩ := h
  obtain rfl : v = Value.ref a := rx
  exact d_in (by omega) I g ry fun s' I' => ⟨.bl o.isSome, H, I', rfl, q⟩
theorem op_notInDc {X : Cx} (hu : X.A.units + 70 < cLine) : OpR X (compareOp .NotIn) (rInDc true) := by
  intro pins s σ H y x u v Q I ry rx h
  obtain ⟨a, o, rfl, g, q⟩ := h
  obtain rfl : v = Value.ref a := rx
  exact d_notIn (by omega) I g ry fun s' I' => ⟨.bl (!o.isSome), H, I', rfl, q⟩
theorem dctGet_isSome {K : PySem.W.Frag} {G : Hp} {al : List Addr} {k : Key} {kvs : List (Key × V)} {ds : List D} (r : Reps K G al (kvs.map (·.2)) ds) : (dctGet (kvs.map (·.1)) ds k).isSome = (valV kvs k).isSome := by
  cases h : dctGet (kvs.map (·.1)) ds k with
  | none =>
    rw [dctGet_none r h]
    rfl
  | some d =>
    obtain ⟨v, e, _⟩ := dctGet_some r h
    rw [e]
    rfl
theorem ok_in {K : PySem.W.Frag} {neg : Bool} : Ok2 K (fun x y H Q => (rInX K neg x y H Q ∨ rInS neg x y H Q) ∨ rInDc neg x y H Q) (dIn neg) := by
  intro W M H x y d e res Q w rx ry h q
  unfold dIn at h
  split at h
  · split at h
    · rename_i hk
      cases h
      obtain ⟨p1, p2, p3⟩ := okIn_of hk
      obtain ⟨a1, a2⟩ := rx.dp w p1
      obtain ⟨b1, b2⟩ := ry.dp w (by simpa [D.pure] using p2)
      refine .inl (.inl ⟨_, _, a1, .inr b1, a2, by simpa [D.py, PyData.canLay0] using b2, p3, ?_⟩)
      rw [eval_any]
      exact done_bl w q
    · cases h
  · split at h
    · rename_i hk
      cases h
      obtain ⟨p1, p2, p3⟩ := okIn_of hk
      obtain ⟨a1, a2⟩ := rx.dp w p1
      obtain ⟨b1, b2⟩ := ry.dp w (by simpa [D.pure] using p2)
      refine .inl (.inl ⟨_, _, a1, .inl b1, a2, by simpa [D.py, PyData.canLay0] using b2, p3, ?_⟩)
      rw [eval_any]
      exact done_bl w q
    · cases h
  · cases h
    exact .inl (.inr ⟨_, _, rx.str.1, ry.str.1, done_bl w q⟩)
  · split at h
    · rename_i k hk
      cases h
      obtain ⟨a, kvs, rfl, h1, rfl, r1⟩ := ry.dct w
      refine .inr ⟨a, _, rfl, by rw [rx.key hk]; exact DGet.k h1, ?_⟩
      rw [← dctGet_isSome r1]
      exact done_bl w q
    · cases h
  · cases h
section
variable {X : Cx}
theorem op_inS : OpR X (compareOp .In) (rInS false) := op_in_str
theorem op_notInS : OpR X (compareOp .NotIn) (rInS true) := op_notin_str
end

/-! ### list.index -/
/-- the first place of an equal one -/
def D.ixOf (d : D) : List D → Option Nat
  | [] => none
  | z :: r => if z.eqv d then some 0 else (D.ixOf d r).map (· + 1)
theorem ixOf_some {d : D} : ∀ {ds : List D} {j : Nat}, d.ixOf ds = some j → ∃ z, ds[j]? = some z ∧ z.eqv d = true ∧ ∀ (m : Nat) (z' : D), m < j → ds[m]? = some z' → z'.eqv d = false
  | [], _, h => by cases h
  | z :: r, j, h => by
    unfold D.ixOf at h
    by_cases e : z.eqv d = true
    · rw [if_pos e] at h
      cases h
      exact ⟨z, rfl, e, fun m _ hm => absurd hm (Nat.not_lt_zero m)⟩
    · rw [if_neg e] at h
      cases e2 : d.ixOf r with
      | none =>
        rw [e2] at h
        cases h
      | some k =>
        rw [e2] at h
        cases h
        obtain ⟨y, h1, h2, h3⟩ := ixOf_some e2
        refine ⟨y, h1, h2, fun m z' hm hz => ?_⟩
        cases m with
        | zero =>
          cases hz
          simpa using e
        | succ m => exact h3 m z' (Nat.lt_of_succ_lt_succ hm) hz
theorem pys_get {ds : List D} {j : Nat} : (D.pys ds)[j]? = (ds[j]?).map D.py := by
  induction ds generalizing j with
  | nil => rfl
  | cons x r ih =>
    cases j with
    | zero => rfl
    | succ j => exact ih
def dIndex : Op2
  | .lst ds, d => if d.pure && D.pures ds && decide (D.depths ds < 64) && decide (d.depth ≤ 64) then (d.ixOf ds).map fun j => (.int (j : Nat), false) else none
  | _, _ => none
end R

set_option Elab.async false
set_option linter.all false
set_option maxRecDepth 100000
set_option maxHeartbeats 2000000
/-! R5: what is walked; targets; comprehensions -/
namespace R
open PySem PySem.Spec PyProof.Rows L2

/-! ### targets -/
inductive Tg where
  | nm (i : Nat)
  | tp (ts : List Tg)
mutual
/-- a value is bound to a target -/
def Tg.bind : Tg → D → Env → Option Env
  | .nm i, d, env => if i < env.length then some (env.set i (.fz d)) else none
  | .tp ts, .tup ds, env => Tg.binds ts ds env
  | .tp _, _, _ => none
def Tg.binds : List Tg → List D → Env → Option Env
  | [], [], env => some env
  | t :: ts, d :: ds, env => match Tg.bind t d env with
    | some e1 => Tg.binds ts ds e1
    | none => none
  | _, _, _ => none
end
mutual
/-- a target's slots -/
def Tg.slots : Tg → List Nat
  | .nm i => [i]
  | .tp ts => Tg.slotss ts
def Tg.slotss : List Tg → List Nat
  | [] => []
  | t :: ts => Tg.slots t ++ Tg.slotss ts
end
def tG (K : PySem.W.Frag) (t : Tg) : TG := fun v σ H Q => ∃ W env M d env', Rw K W M H ∧ Re K W env σ ∧ RepW K W v d ∧ t.bind d env = some env' ∧ ∀ σ', Re K W env' σ' → (∀ j, j ∉ t.slots → σ'[j]? = σ[j]?) → σ'.length = σ.length → Q σ' H
def tGs (K : PySem.W.Frag) (t : List Tg) : TGs := fun v σ H Q => ∃ W env M d env', Rw K W M H ∧ Re K W env σ ∧ RepsW K W v d ∧ Tg.binds t d env = some env' ∧ ∀ σ', Re K W env' σ' → (∀ j, j ∉ Tg.slotss t → σ'[j]? = σ[j]?) → σ'.length = σ.length → Q σ' H
theorem PG.imp {X : Cx} {e : Expr} {t t' : TG} (h : PG X e t) (i : ∀ v σ H Q, t' v σ H Q → t v σ H Q) : PG X e t' := ⟨fun pins s σ H v u Q I r q => h.run pins s σ H v u Q I r (i v σ H Q q)⟩
theorem PGs.imp {X : Cx} {e : List Expr} {t t' : TGs} (h : PGs X e t) (i : ∀ v σ H Q, t' v σ H Q → t v σ H Q) : PGs X e t' := ⟨fun pins s σ H v u Q I r q => h.run pins s σ H v u Q I r (i v σ H Q q)⟩
theorem Re.setFz {K : PySem.W.Frag} {W : Wd} {env : Env} {σ : L2.St} {i : Nat} {v : V} {d : D} (re : Re K W env σ) (hi : i < env.length) (r : RepW K W v d) : Re K W (env.set i (.fz d)) (σ.set i (some v)) := by
  have hl := re.len
  refine ⟨by rw [List.length_set, List.length_set]; exact hl, fun j s hj => ?_, fun j k d1 d2 a h1 h2 h3 h4 => ?_⟩
  · by_cases z : i = j
    · subst z
      rw [List.getElem?_set_self hi] at hj
      cases hj
      rw [List.getElem?_set_self (by omega)]
      exact .fz r
    · rw [List.getElem?_set_ne z] at hj ⊢
      exact re.at_ j s hj
  · have n1 : i ≠ j := fun z => by
      subst z
      rw [List.getElem?_set_self hi] at h1
      cases h1
    have n2 : i ≠ k := fun z => by
      subst z
      rw [List.getElem?_set_self hi] at h2
      cases h2
    rw [List.getElem?_set_ne n1] at h1 h3
    rw [List.getElem?_set_ne n2] at h2 h4
    exact re.inj j k d1 d2 a h1 h2 h3 h4
section
variable {X : Cx} {pos : Pos} {e : Expr} {es : List Expr}
theorem gNm {i : Nat} {x : Str} (hN : X.N.Nodup) (hi : X.N[i]? = some x) (hx : Loc X.env.scope x) (hf : X.fn x = true ∨ X.env.scope.names.lookup x = some .local) : PG X (.Name x pos) (tG X.K (.nm i)) := PG.imp (pg_name hN hi hx hf) fun v σ H Q h => by
  obtain ⟨W, env, M, d, env', w, re, r, e, q⟩ := h
  unfold Tg.bind at e
  split at e
  · rename_i hl
    cases e
    refine q _ (re.setFz hl r) (fun j hj => ?_) (by rw [List.length_set])
    have z : i ≠ j := fun z => hj (by rw [z]; simp [Tg.slots])
    rw [List.getElem?_set_ne z]
  · cases e
theorem gsNil : PGs X [] (tGs X.K []) := PGs.imp pgs_nil fun v σ H Q h => by
  obtain ⟨W, env, M, d, env', w, re, r, e, q⟩ := h
  cases d with
  | nil =>
    cases r
    cases e
    exact ⟨rfl, q σ re (fun _ _ => rfl) rfl⟩
  | cons a b => cases e
theorem asg_cons {e : Expr} {es : List Expr} {env : PySem.Env} (h : plainE e = true) : assignEach (e :: es) env = (false, assign e env) :: assignEach es env := by
  cases e <;> first | rfl | cases h
theorem asg_all {env : PySem.Env} : ∀ {es : List Expr}, es.all plainE = true → (assignEach es env).findIdx? (·.1) = none ∧ (assignEach es env).length = es.length
  | [], _ => ⟨rfl, rfl⟩
  | e :: es, h => by
    rw [List.all_cons, Bool.and_eq_true] at h
    obtain ⟨h1, h2⟩ := asg_all (env := env) h.2
    rw [asg_cons h.1, List.findIdx?_cons, h1, List.length_cons, h2]
    exact ⟨rfl, rfl⟩
theorem gsCons {t : Tg} {ts : List Tg} (hp : plainE e = true) (h1 : PG X e (tG X.K t)) (h2 : PGs X es (tGs X.K ts)) : PGs X (e :: es) (tGs X.K (t :: ts)) := PGs.imp (pgs_cons h1 h2 (by rw [asg_cons hp]; rfl)) fun v σ H Q h => by
  obtain ⟨W, env, M, d, env', w, re, r, e, q⟩ := h
  cases d with
  | nil => cases e
  | cons a b =>
    cases r with
    | cons ra rb =>
      unfold Tg.binds at e
      split at e
      · rename_i e1 he1
        refine ⟨_, _, rfl, W, env, M, a, e1, w, re, ra, he1, fun σ1 re1 f1 l1 => ⟨W, e1, M, b, env', w, re1, rb, e, fun σ2 re2 f2 l2 => q σ2 re2 (fun j hj => ?_) (l2.trans l1)⟩⟩
        simp only [Tg.slotss, List.mem_append, not_or] at hj
        rw [f2 j hj.2, f1 j hj.1]
      · cases e
theorem gTp {x1 : Nat} {ts : List Tg} (hc : X.calm = true) (hp : es.all plainE = true) (h : PGs X es (tGs X.K ts)) (hl : es.length = ts.length) : PG X (.Tuple es x1 pos) (tG X.K (.tp ts)) := PG.imp (pg_tup hc h (asg_all hp).2 (asg_all hp).1) fun v σ H Q h => by
  obtain ⟨W, env, M, d, env', w, re, r, e, q⟩ := h
  cases d with
  | tup ds =>
    cases r with
    | tup hh _ rr =>
      refine ⟨_, _, rfl, w.g.sqT hh, ?_, W, env, M, ds, env', w, re, rr, e, q⟩
      have key : ∀ (ts : List Tg) (ds : List D) (env env' : Env), Tg.binds ts ds env = some env' → ts.length = ds.length := by
        intro ts
        induction ts with
        | nil =>
          intro ds env env' h
          cases ds with
          | nil => rfl
          | cons a b => cases h
        | cons t ts ih =>
          intro ds env env' h
          cases ds with
          | nil => cases h
          | cons a b =>
            unfold Tg.binds at h
            split at h
            · rw [List.length_cons, List.length_cons, ih _ _ _ h]
            · cases h
      rw [rr.length, hl]
      exact (key ts ds env env' e).symm
  | _ => cases e
end

/-! ### what is walked -/
/-- a step of the world by statements: the frame's own lists may change -/
structure EvoS (W W' : Wd) : Prop where
  g : Le W.G W'.G
  b : W'.B = W.B
  al : Pre W.al W'.al
theorem EvoS.refl (W : Wd) : EvoS W W := ⟨Le.refl _, rfl, Pre.refl _⟩
theorem EvoS.trans {W W1 W2 : Wd} (a : EvoS W W1) (b : EvoS W1 W2) : EvoS W W2 := ⟨a.g.trans b.g, b.b.trans a.b, a.al.trans b.al⟩
theorem Evo.s {W W' : Wd} (e : Evo W W') : EvoS W W' := ⟨e.g, e.b, e.al⟩
theorem Rep.evoS {K : PySem.W.Frag} {W W' : Wd} {v : V} {d : D} (h : RepW K W v d) (e : EvoS W W') : RepW K W' v d := Rep.mono e.g e.al h
theorem Reps.evoS {K : PySem.W.Frag} {W W' : Wd} {v : List V} {d : List D} (h : RepsW K W v d) (e : EvoS W W') : RepsW K W' v d := Reps.mono e.g e.al h
/-- .. without a word of the others' objects (and of the frame's own lists) -/
structure EvoO (W W' : Wd) : Prop where
  g : Le W.G W'.G
  o : W'.O = W.O
  al : Pre W.al W'.al
structure EvoG (W W' : Wd) : Prop where
  g : Le W.G W'.G
  al : Pre W.al W'.al
theorem Evo.oo {W W' : Wd} (e : Evo W W') : EvoO W W' := ⟨e.g, e.o, e.al⟩
theorem EvoS.gg {W W' : Wd} (e : EvoS W W') : EvoG W W' := ⟨e.g, e.al⟩
theorem EvoO.gg {W W' : Wd} (e : EvoO W W') : EvoG W W' := ⟨e.g, e.al⟩
theorem EvoO.trans {W W1 W2 : Wd} (a : EvoO W W1) (b : EvoO W1 W2) : EvoO W W2 := ⟨a.g.trans b.g, b.o.trans a.o, a.al.trans b.al⟩
theorem EvoG.trans {W W1 W2 : Wd} (a : EvoG W W1) (b : EvoG W1 W2) : EvoG W W2 := ⟨a.g.trans b.g, a.al.trans b.al⟩
theorem RepP.evoO {K : PySem.W.Frag} {W W' : Wd} {v : V} {d : D} (h : RepP K W v d) (e : EvoO W W') : RepP K W' v d := by
  cases h with
  | fz h => exact .fz (Rep.mono e.g e.al h)
  | own h r => exact .own (by rw [e.o]; exact h) (r.mono e.g e.al)
theorem Rep.evoG {K : PySem.W.Frag} {W W' : Wd} {v : V} {d : D} (h : RepW K W v d) (e : EvoG W W') : RepW K W' v d := Rep.mono e.g e.al h
/-- the walk hands out just these, whatever happens beside it -/
def IterOk (K : PySem.W.Frag) (W₀ : Wd) (J : It) (ds : List D) : Prop :=
  ∀ (i : Nat) (W : Wd) (M : List MO) (H : Hp), EvoO W₀ W → Rw K W M H →
    (ds.length = i → J.stop i H) ∧ (∀ d, ds[i]? = some d → J.go i H ∧ ∀ x H', J.yld i H x H' → ∃ W', Evo W W' ∧ Rw K W' M H' ∧ RepW K W' x d)
def IterOkS (K : PySem.W.Frag) (W₀ : Wd) (J : It) (ds : List D) : Prop :=
  ∀ (i : Nat) (W : Wd) (M : List MO) (H : Hp), EvoG W₀ W → Rw K W M H →
    (ds.length = i → J.stop i H) ∧ (∀ d, ds[i]? = some d → J.go i H ∧ ∀ x H', J.yld i H x H' → ∃ W', Evo W W' ∧ Rw K W' M H' ∧ RepW K W' x d)
/-- a walk as compiled: its items -/
abbrev EI := Env → List MO → Option (List D × List MO)
def tI (K : PySem.W.Frag) (f : EI) : TI := fun σ H R => ∃ W env M ds M', Rw K W M H ∧ Re K W env σ ∧ f env M = some (ds, M') ∧ ∀ J H' W', Evo W W' → Rw K W' M' H' → IterOk K W' J ds → R J H'
def tIS (K : PySem.W.Frag) (f : EI) : TI := fun σ H R => ∃ W env M ds M', Rw K W M H ∧ Re K W env σ ∧ f env M = some (ds, M') ∧ ∀ J H' W', Evo W W' → Rw K W' M' H' → IterOkS K W' J ds → R J H'
/-- a list, a tuple, walked -/
def seqItems : D → Option (List D)
  | .tup xs => some xs
  | .lst xs => some xs
  | .scr xs => some xs
  | _ => none
def chars (s : Str) : List D := s.cps.toList.map fun c => .str ⟨#[c]⟩
/-- .. a text, too -/
def walkD : D → Option (List D)
  | .str s => some (chars s)
  | d => seqItems d
def iSeqX (K : PySem.W.Frag) (tl : TE) : TI := fun σ H R => tl σ H fun x H1 => (∃ a, x = .ref a ∧ (((∃ xs, SqL K H1 a xs) ∧ R (Itl K a) H1) ∨ ((∃ xs, SqT K H1 a xs) ∧ R (Itt K a) H1))) ∨ ∃ s, x = .str s ∧ R (Its s) H1
def iSeq (f : EP) : EI := fun env M => match f env M with
  | some (d, M1) => (walkD d).map fun xs => (xs, M1)
  | none => none
theorem iSeq_some {f : EP} {env : Env} {M M' : List MO} {ds : List D} (e : iSeq f env M = some (ds, M')) : ∃ d, f env M = some (d, M') ∧ walkD d = some ds := by
  unfold iSeq at e
  split at e
  · rename_i d M1 h
    cases hd : walkD d with
    | none =>
      rw [hd] at e
      cases e
    | some xs =>
      rw [hd] at e
      cases e
      exact ⟨d, h, hd⟩
  · cases e
theorem walk_str {K : PySem.W.Frag} (W₀ : Wd) {s : Str} (ok : PyData.strOk s = true) : IterOkS K W₀ (Its s) (chars s) := fun i W M H _ w => by
  have hl : (chars s).length = s.cps.size := by
    unfold chars
    rw [List.length_map, Array.length_toList]
  refine ⟨fun h => Nat.le_of_eq (hl.symm.trans h), fun d hd => ?_⟩
  unfold chars at hd
  rw [List.getElem?_map, Array.getElem?_toList] at hd
  cases hc : s.cps[i]? with
  | none =>
    rw [hc] at hd
    cases hd
  | some c =>
    rw [hc] at hd
    cases hd
    refine ⟨(Array.getElem?_eq_some_iff.mp hc).1, fun x H' ⟨e1, c', e2, e3⟩ => ?_⟩
    rw [hc] at e2
    cases e2
    subst e1 e3
    refine ⟨W, Evo.refl W, w, .str _ ?_⟩
    unfold PyData.strOk at ok ⊢
    rw [Array.all_eq_true] at ok
    obtain ⟨hi, e4⟩ := Array.getElem?_eq_some_iff.mp hc
    have z := ok i hi
    rw [e4] at z
    simpa using z
theorem IterOkS.p0 {K : PySem.W.Frag} {W₀ : Wd} {J : It} {ds : List D} (h : IterOkS K W₀ J ds) : IterOk K W₀ J ds := fun i W M H e w => h i W M H e.gg w
theorem walk_lst {K : PySem.W.Frag} {W : Wd} {M : List MO} {H : Hp} {a : Addr} {vs : List V} {ds : List D} (i : Nat) (w : Rw K W M H) (h : SqL K H a vs) (r : RepsW K W vs ds) :
    (ds.length = i → (Itl K a).stop i H) ∧ (∀ d, ds[i]? = some d → (Itl K a).go i H ∧ ∀ x H', (Itl K a).yld i H x H' → ∃ W', Evo W W' ∧ Rw K W' M H' ∧ RepW K W' x d) := by
  refine ⟨fun hl => ⟨vs, h, by rw [r.length]; exact Nat.le_of_eq hl⟩, fun d hd => ?_⟩
  obtain ⟨v, hv, rv⟩ := r.get hd
  refine ⟨⟨vs, v, h, hv⟩, fun x H' y => ?_⟩
  obtain ⟨rfl, y⟩ := y
  have e := y vs h
  rw [hv] at e
  cases e
  exact ⟨W, Evo.refl W, w, rv⟩
theorem walk_tup {K : PySem.W.Frag} {W : Wd} {M : List MO} {H : Hp} {a : Addr} {vs : List V} {ds : List D} (i : Nat) (w : Rw K W M H) (h : SqT K H a vs) (r : RepsW K W vs ds) :
    (ds.length = i → (Itt K a).stop i H) ∧ (∀ d, ds[i]? = some d → (Itt K a).go i H ∧ ∀ x H', (Itt K a).yld i H x H' → ∃ W', Evo W W' ∧ Rw K W' M H' ∧ RepW K W' x d) := by
  refine ⟨fun hl => ⟨vs, h, by rw [r.length]; exact Nat.le_of_eq hl⟩, fun d hd => ?_⟩
  obtain ⟨v, hv, rv⟩ := r.get hd
  refine ⟨⟨vs, v, h, hv⟩, fun x H' y => ?_⟩
  obtain ⟨rfl, y⟩ := y
  have e := y vs h
  rw [hv] at e
  cases e
  exact ⟨W, Evo.refl W, w, rv⟩
section
variable {X : Cx} {tg : Expr}
theorem pi_seqX {l : Expr} {tl : TE} (hl : PE X l tl) : PI X tg l (iSeqX X.K tl) := by
  refine ⟨fun pins s σ H R I h => ?_⟩
  have two := thn (Q' := fun v s1 => wpAny (model X.prog X.w) X.A (pyIter v) (PIE X pins σ tg R) X.xe s1) (hl.run pins s σ H _ I h) fun v s1 ⟨x, H1, I1, r1, q1⟩ => by
    rcases q1 with ⟨a, e, q⟩ | ⟨y, e, q⟩
    case inr =>
      subst e
      obtain ⟨t, rfl⟩ := r1
      cases ha : y.cps.all (· < 128)
      · exact wpAny_pyIter_wide ha (pi_one (tk := s1.toks) I1 _ (turn_str _ y t "str_iterator" (.inr rfl)) ⟨_, Heap.get?_push_size _ rfl, rfl, rfl⟩ q)
      · exact wpAny_pyIter_ascii ha (pi_one (tk := s1.toks) I1 _ (turn_str _ y t "str_ascii_iterator" (.inl rfl)) ⟨_, Heap.get?_push_size _ rfl, rfl, rfl⟩ q)
    subst e
    cases r1
    have sz : s1.heap.objs.size = s1.heap.objs.size := rfl
    rcases q with ⟨⟨xs, hq⟩, q⟩ | ⟨⟨xs, hq⟩, q⟩
    · obtain ⟨its, rv, p, hz⟩ := I1.list hq
      refine wpAny_pyIter_list p.isList ⟨s1.heap.objs.size, [s1.heap.objs.size], _, _, H1, rfl, I1.kept (t' := s1.toks) fun b o e => Heap.get?_push_of_some _ e, turn_list a _, ⟨_, Heap.get?_push_size _ rfl, rfl, rfl⟩, fun b hb => ?_, q⟩
      rw [List.mem_singleton.mp hb]
      exact I1.fpOk (Nat.le_refl _) (I1.hok.fresh (Nat.le_refl _))
    · obtain ⟨its, rv, p, hz⟩ := I1.tuple hq
      refine wpAny_pyIter_tuple (show s1.heap.IsTuple a its.toArray from p) ⟨s1.heap.objs.size, [s1.heap.objs.size], _, _, H1, rfl, I1.kept (t' := s1.toks) fun b o e => Heap.get?_push_of_some _ e, turn_tuple a _, ⟨_, Heap.get?_push_size _ rfl, rfl, rfl⟩, fun b hb => ?_, q⟩
      rw [List.mem_singleton.mp hb]
      exact I1.fpOk (Nat.le_refl _) (I1.hok.fresh (Nat.le_refl _))
  exact two
theorem iSeqP {l : Expr} {f : EP} (hl : PE X l (tP X.K f)) : PI X tg l (tI X.K (iSeq f)) := PI.imp (pi_seqX hl) fun σ H R h => by
  obtain ⟨W, env, M, ds, M', w, re, e, q⟩ := h
  obtain ⟨d, e1, e2⟩ := iSeq_some e
  refine ⟨W, env, M, d, M', w, re, e1, fun v H' W' ev w' r => ?_⟩
  cases d with
  | tup xs =>
    cases e2
    obtain ⟨a, vs, rfl, h1, r1⟩ := r.tup w'
    refine .inl ⟨a, rfl, .inr ⟨⟨vs, h1⟩, q _ _ _ ev w' fun i W2 M2 H2 e2 w2 => ?_⟩⟩
    obtain ⟨b, us, eb, h3, r3⟩ := (r.evoO e2).tup w2
    cases eb
    exact walk_tup i w2 h3 r3
  | lst xs =>
    cases e2
    obtain ⟨a, vs, rfl, h1, r1⟩ := r.lst w'
    refine .inl ⟨a, rfl, .inl ⟨⟨vs, .inl (.inl h1)⟩, q _ _ _ ev w' fun i W2 M2 H2 e2 w2 => ?_⟩⟩
    obtain ⟨b, us, eb, h3, r3⟩ := (r.evoO e2).lst w2
    cases eb
    exact walk_lst i w2 (.inl (.inl h3)) r3
  | scr xs =>
    cases e2
    obtain ⟨a, vs, rfl, h1, r1⟩ := r.scr w'
    refine .inl ⟨a, rfl, .inl ⟨⟨vs, h1⟩, q _ _ _ ev w' fun i W2 M2 H2 e2 w2 => ?_⟩⟩
    obtain ⟨b, us, eb, h3, r3⟩ := (r.evoO e2).scr w2
    cases eb
    exact walk_lst i w2 h3 r3
  | str y =>
    cases e2
    obtain ⟨rfl, ok⟩ := r.str
    exact .inr ⟨y, rfl, q _ _ _ ev w' (walk_str W' ok).p0⟩
  | _ => cases e2
theorem iSeqF {l : Expr} {f : EP} (hl : PE X l (tF X.K f)) : PI X tg l (tIS X.K (iSeq f)) := PI.imp (pi_seqX hl) fun σ H R h => by
  obtain ⟨W, env, M, ds, M', w, re, e, q⟩ := h
  obtain ⟨d, e1, e2⟩ := iSeq_some e
  refine ⟨W, env, M, d, M', w, re, e1, fun v H' W' ev w' r => ?_⟩
  cases d with
  | tup xs =>
    cases e2
    obtain ⟨a, vs, rfl, h1, r1⟩ := (RepP.fz r).tup w'
    refine .inl ⟨a, rfl, .inr ⟨⟨vs, h1⟩, q _ _ _ ev w' fun i W2 M2 H2 e2 w2 => ?_⟩⟩
    obtain ⟨b, us, eb, h3, r3⟩ := (RepP.fz (r.evoG e2)).tup w2
    cases eb
    exact walk_tup i w2 h3 r3
  | lst xs =>
    cases e2
    obtain ⟨a, vs, rfl, h1, r1⟩ := (RepP.fz r).lst w'
    refine .inl ⟨a, rfl, .inl ⟨⟨vs, .inl (.inl h1)⟩, q _ _ _ ev w' fun i W2 M2 H2 e2 w2 => ?_⟩⟩
    obtain ⟨b, us, eb, h3, r3⟩ := (RepP.fz (r.evoG e2)).lst w2
    cases eb
    exact walk_lst i w2 (.inl (.inl h3)) r3
  | scr xs =>
    cases e2
    obtain ⟨a, vs, rfl, h1, r1⟩ := (RepP.fz r).scr w'
    refine .inl ⟨a, rfl, .inl ⟨⟨vs, h1⟩, q _ _ _ ev w' fun i W2 M2 H2 e2 w2 => ?_⟩⟩
    obtain ⟨b, us, eb, h3, r3⟩ := (RepP.fz (r.evoG e2)).scr w2
    cases eb
    exact walk_lst i w2 h3 r3
  | str y =>
    cases e2
    obtain ⟨rfl, ok⟩ := (RepP.fz r).str
    exact .inr ⟨y, rfl, q _ _ _ ev w' (walk_str W' ok)⟩
  | _ => cases e2

/-! range -/
def rints (a : Int) (n : Nat) : List D := (List.range n).map fun i : Nat => .int (a + (i : Int))
theorem ints_len (a : Int) (n : Nat) : (rints a n).length = n := by simp [rints]
theorem ints_get {a : Int} {n i : Nat} {d : D} (h : (rints a n)[i]? = some d) : i < n ∧ d = .int (a + (i : Int)) := by
  unfold rints at h
  rw [List.getElem?_map] at h
  by_cases hi : i < n
  · rw [List.getElem?_range hi] at h
    cases h
    exact ⟨hi, rfl⟩
  · rw [List.getElem?_eq_none (by simpa using hi)] at h
    cases h
theorem walk_rng {K : PySem.W.Frag} (W₀ : Wd) (a : Int) (n : Nat) : IterOkS K W₀ (Itr a n) (rints a n) := fun i W M H _ w => by
  refine ⟨fun hl => ?_, fun d hd => ?_⟩
  · rw [ints_len] at hl
    exact Nat.le_of_eq hl
  · obtain ⟨h1, rfl⟩ := ints_get hd
    refine ⟨h1, fun x H' y => ?_⟩
    obtain ⟨rfl, rfl⟩ := y
    exact ⟨W, Evo.refl W, w, .int _⟩
theorem IterOkS.p {K : PySem.W.Frag} {W₀ : Wd} {J : It} {ds : List D} (h : IterOkS K W₀ J ds) : IterOk K W₀ J ds := fun i W M H e w => h i W M H e.gg w
def rng62 (i : Int) : Bool := decide (-(2 ^ 62) ≤ i ∧ i < 2 ^ 62)
def iRng (fs : EL) : EI := fun env M => match fs env M with
  | some ([.int j], M1) => if rng62 j then some (rints 0 j.toNat, M1) else none
  | some ([.int i, .int j], M1) => if rng62 i && rng62 j then some (rints i (j - i).toNat, M1) else none
  | _ => none
theorem rng62_of {i : Int} (h : rng62 i = true) : -(2 ^ 62) ≤ i ∧ i < 2 ^ 62 := of_decide_eq_true h
theorem iRng1 {a : Expr} {f : EP} {p pos : Pos} (hg : Gl X "range") (hm : X.mg "range" = none) (hp : plainE a = true) (ha : PE X a (tP X.K f)) : PI X tg (.Call (.Name "range" p) [a] [] pos) (tIS X.K (iRng (eCons f eNil))) :=
  PI.imp (pi_range1 hg hm (pConsP ha pNilP (star_cons hp)) (by rw [star_cons hp]; rfl)) fun σ H R h => by
    obtain ⟨W, env, M, ds, M', w, re, e, q⟩ := h
    unfold iRng at e
    split at e
    · rename_i j M1 hf
      split at e
      · rename_i hj
        cases e
        obtain ⟨h1, h2⟩ := rng62_of hj
        refine ⟨W, env, M, [.int j], _, w, re, hf, fun vs H' W' ev w' rs => ?_⟩
        obtain ⟨v, rfl, r⟩ := RepP.one rs
        exact ⟨j, by rw [r.int], h1, h2, q _ _ _ ev w' (walk_rng _ _ _)⟩
      · cases e
    · rename_i i j M1 hf
      obtain ⟨x, M2, xs, a1, a2, a3⟩ := eCons_some hf
      cases a2
      exact absurd (congrArg List.length a3) (by simp)
    · cases e
theorem iRng2 {a b : Expr} {f g : EP} {p pos : Pos} (hg : Gl X "range") (hm : X.mg "range" = none) (hp : plainE a = true) (hp2 : plainE b = true) (ha : PE X a (tP X.K f)) (hb : PE X b (tP X.K g)) : PI X tg (.Call (.Name "range" p) [a, b] [] pos) (tIS X.K (iRng (eCons f (eCons g eNil)))) :=
  PI.imp (pi_range2 hg hm (pConsP ha (pConsP hb pNilP (star_cons hp2)) (star_cons hp)) (by rw [star_cons hp, star_cons hp2]; rfl) (by rw [star_cons hp2]; rfl)) fun σ H R h => by
    obtain ⟨W, env, M, ds, M', w, re, e, q⟩ := h
    unfold iRng at e
    split at e
    · rename_i j M1 hf
      obtain ⟨x, M2, xs, a1, a2, a3⟩ := eCons_some hf
      obtain ⟨y, M3, ys, b1, b2, rfl⟩ := eCons_some a2
      exact absurd (congrArg List.length a3) (by simp)
    · rename_i i j M1 hf
      split at e
      · rename_i hj
        rw [Bool.and_eq_true] at hj
        cases e
        obtain ⟨h1, h2⟩ := rng62_of hj.1
        obtain ⟨h3, h4⟩ := rng62_of hj.2
        refine ⟨W, env, M, [.int i, .int j], _, w, re, hf, fun vs H' W' ev w' rs => ?_⟩
        obtain ⟨v, u, rfl, r, r'⟩ := RepPs.two rs
        exact ⟨i, j, by rw [r.int, r'.int], ⟨h1, h2, h3, h4⟩, q _ _ _ ev w' (walk_rng _ _ _)⟩
      · cases e
    · cases e
theorem tI_of_tIS {K : PySem.W.Frag} {f : EI} {σ : L2.St} {H : Hp} {R : It → Hp → Prop} (h : tI K f σ H R) : tIS K f σ H R := by
  obtain ⟨W, env, M, ds, M', w, re, e, q⟩ := h
  exact ⟨W, env, M, ds, M', w, re, e, fun J H' W' ev w' r => q J H' W' ev w' r.p⟩
theorem piP {l : Expr} {f : EI} (h : PI X tg l (tIS X.K f)) : PI X tg l (tI X.K f) := PI.imp h fun _ _ _ => tI_of_tIS
end
end R

set_option Elab.async false
set_option linter.all false
set_option maxRecDepth 100000
set_option maxHeartbeats 2000000
/-! R6: list comprehensions -/
namespace R
open PySem PySem.Spec PyProof.Rows L2

def wipeE (env : Env) (vs : List Nat) : Env := vs.foldr (fun v e => e.set v .no) env
theorem wipe_get (σ : L2.St) : ∀ (vs : List Nat) (j : Nat), (wipe σ vs)[j]? = if j ∈ vs ∧ j < σ.length then some none else σ[j]?
  | [], j => by simp [wipe]
  | v :: vs, j => by
    have ih := wipe_get σ vs j
    have hl := wipe_length σ vs
    unfold wipe
    by_cases z : v = j
    · subst z
      by_cases hv : v < σ.length
      · rw [List.getElem?_set_self (by omega), if_pos ⟨List.mem_cons_self, hv⟩]
      · rw [if_neg fun h => hv h.2, List.getElem?_eq_none (by rw [List.length_set]; omega), List.getElem?_eq_none (by omega)]
    · rw [List.getElem?_set_ne z, ih]
      have e : j ∈ v :: vs ↔ j ∈ vs := by
        rw [List.mem_cons]
        exact ⟨fun h => h.elim (fun h => absurd h.symm z) id, .inr⟩
      simp only [e]
theorem wipeE_length (env : Env) : ∀ vs : List Nat, (wipeE env vs).length = env.length
  | [] => rfl
  | v :: vs => by
    show ((wipeE env vs).set v .no).length = _
    rw [List.length_set, wipeE_length env vs]
theorem Re.wipe {K : PySem.W.Frag} {W : Wd} {env : Env} {σ : L2.St} (re : Re K W env σ) : ∀ vs : List Nat, Re K W (wipeE env vs) (L2.wipe σ vs)
  | [] => re
  | v :: vs => by
    have r := Re.wipe re vs
    show Re K W ((wipeE env vs).set v .no) ((L2.wipe σ vs).set v none)
    refine ⟨by rw [List.length_set, List.length_set]; exact r.len, fun j s hj => ?_, fun j k d1 d2 a h1 h2 h3 h4 => ?_⟩
    · by_cases z : v = j
      · subst z
        have hv : v < ((wipeE env vs).set v .no).length := (List.getElem?_eq_some_iff.mp hj).1
        rw [List.length_set] at hv
        rw [List.getElem?_set_self hv] at hj
        cases hj
        rw [List.getElem?_set_self (by rw [r.len]; exact hv)]
        exact .no
      · rw [List.getElem?_set_ne z] at hj ⊢
        exact r.at_ j s hj
    · have key : ∀ {j : Nat} {d : D}, ((wipeE env vs).set v .no)[j]? = some (.own d) → v ≠ j := fun {j d} h z => by
        subst z
        have hv : v < ((wipeE env vs).set v .no).length := (List.getElem?_eq_some_iff.mp h).1
        rw [List.length_set] at hv
        rw [List.getElem?_set_self hv] at h
        cases h
      have n1 := key h1
      have n2 := key h2
      rw [List.getElem?_set_ne n1] at h1 h3
      rw [List.getElem?_set_ne n2] at h2 h4
      exact r.inj j k d1 d2 a h1 h2 h3 h4

/-- an object beside the world is guarded | let go again -/
theorem Rw.addB {K : PySem.W.Frag} {W : Wd} {M : List MO} {H : Hp} (w : Rw K W M H) {a : Addr} {o : HO} (h : H a = some o) (g : W.G a = none) (oo : W.O a = none) (m : a ∉ W.al) : Rw K { W with B := upd W.B a o } M H := by
  refine ⟨w.g, fun c u q => ?_, w.o, fun c q => ?_, fun c q => ?_, fun c hc => ?_, w.nd, w.ml, w.mo⟩
  · have q' : upd W.B a o c = some u := q
    by_cases z : c = a
    · subst z
      rw [upd_same] at q'
      cases q'
      exact h
    · rw [upd_ne z] at q'
      exact w.b _ _ q'
  · have z : c ≠ a := fun z => q (by rw [z]; exact g)
    refine ⟨?_, (w.gb c q).2⟩
    show upd W.B a o c = none
    rw [upd_ne z]
    exact (w.gb c q).1
  · by_cases z : c = a
    · rw [z]
      exact oo
    · have q' : upd W.B a o c ≠ none := q
      rw [upd_ne z] at q'
      exact w.bo c q'
  · have z : c ≠ a := fun z => m (z ▸ hc)
    refine ⟨(w.ag c hc).1, ?_, (w.ag c hc).2.2⟩
    show upd W.B a o c = none
    rw [upd_ne z]
    exact (w.ag c hc).2.1
theorem Rw.delB {K : PySem.W.Frag} {W : Wd} {M : List MO} {H : Hp} (w : Rw K W M H) {a : Addr} {o o' : HO} {B : Hp} (hB : W.B = upd B a o) (h0 : B a = none) :
    Rw K { W with B := B } M (upd H a o') ∧ W.G a = none ∧ W.O a = none ∧ a ∉ W.al ∧ H a = some o := by
  have hb : W.B a = some o := by rw [hB, upd_same]
  have hne : W.B a ≠ none := by rw [hb]; exact fun z => nomatch z
  have hg : W.G a = none := by
    cases q : W.G a with
    | none => rfl
    | some u =>
      have z := (w.gb a (by rw [q]; exact fun z => nomatch z)).1
      exact absurd z hne
  have ho : W.O a = none := w.bo a hne
  have hm : a ∉ W.al := fun hm => hne (w.ag a hm).2.1
  have sub : ∀ c, c ≠ a → B c = W.B c := fun c z => by rw [hB, upd_ne z]
  have keep : ∀ {F : Hp}, Le F H → F a = none → Le F (upd H a o') := fun {F} l n c u q => by
    rw [upd_ne fun z => by rw [z, n] at q; cases q]
    exact l c u q
  refine ⟨⟨keep w.g hg, fun c u q => ?_, keep w.o ho, fun c q => ?_, fun c q => ?_, fun c hc => ?_, w.nd, w.ml, fun n c m h1 h2 => ?_⟩, hg, ho, hm, w.b _ _ hb⟩
  · have q' : B c = some u := q
    have z : c ≠ a := fun z => by
      rw [z, h0] at q'
      cases q'
    rw [upd_ne z]
    exact w.b c u (by rw [← sub c z]; exact q')
  · have z : c ≠ a := fun z => q (by rw [z]; exact hg)
    exact ⟨(sub c z).trans (w.gb c q).1, (w.gb c q).2⟩
  · have z : c ≠ a := fun z => q (by rw [z]; exact h0)
    exact w.bo c (by rw [← sub c z]; exact q)
  · have z : c ≠ a := fun z => hm (z ▸ hc)
    exact ⟨(w.ag c hc).1, (sub c z).trans (w.ag c hc).2.1, (w.ag c hc).2.2⟩
  · have z : c ≠ a := fun z => hm (z ▸ List.mem_of_getElem? h1)
    exact (w.mo n c m h1 h2).mono (Le.refl _) (Pre.refl _) (upd_ne z)

/-- what a comprehension makes of its items -/
def compL (env : Env) (tg : Tg) (cond : EB) (elt : EP) : List D → List MO → Option (List D × List MO)
  | [], M => some ([], M)
  | d :: ds, M => match tg.bind d env with
    | some e1 => match cond e1 M with
      | some (true, M1) => match elt e1 M1 with
        | some (y, M2) => match compL env tg cond elt ds M2 with
          | some (ys, M3) => some (y :: ys, M3)
          | none => none
        | none => none
      | some (false, M1) => compL env tg cond elt ds M1
      | none => none
    | none => none
def eComp (vs : List Nat) (it : EI) (tg : Tg) (cond : EB) (elt : EP) : EE := fun env M => match it env M with
  | some (ds, M1) => match compL (wipeE env vs) tg cond elt ds M1 with
    | some (ys, M2) => if ys.length ≤ LIM then some ((.lst ys, true), M2) else none
    | none => none
  | none => none
def eYes : EB := fun _ M => some (true, M)
theorem eComp_some {vs : List Nat} {it : EI} {tg : Tg} {cond : EB} {elt : EP} {env : Env} {M M' : List MO} {r : D × Bool} (e : eComp vs it tg cond elt env M = some (r, M')) :
    ∃ ds M1 ys, it env M = some (ds, M1) ∧ compL (wipeE env vs) tg cond elt ds M1 = some (ys, M') ∧ ys.length ≤ LIM ∧ r = (.lst ys, true) := by
  unfold eComp at e
  split at e
  · rename_i ds M1 h1
    split at e
    · rename_i ys M2 h2
      split at e
      · rename_i hl
        cases e
        exact ⟨ds, M1, ys, h1, h2, hl, rfl⟩
      · cases e
    · cases e
  · cases e
theorem tLc_of {K : PySem.W.Frag} {vs : List Nat} {it : EI} {tg : Tg} {cond : EB} {elt : EP} {σ : L2.St} {H : Hp} {Q : VK} (hsub : ∀ j ∈ tg.slots, j ∈ vs) (h : tE K (eComp vs it tg cond elt) σ H Q) :
    tLc (tI K it) (tG K tg) (tT K cond) (tF K elt) vs σ H Q := by
  obtain ⟨W, env, M, r, M', w, re, e, q⟩ := h
  obtain ⟨ds, M1, ys, e1, e2, hlen, rfl⟩ := eComp_some e
  refine ⟨W, env, M, ds, M1, w, re, e1, fun J H1 W1 ev1 w1 itok La hD => ?_⟩
  have re1 := (re.evo ev1).wipe vs
  obtain ⟨d1, d2, d3, d4⟩ := w1.fresh hD
  -- the invariant
  refine ⟨fun i m H => ∃ W2 M2 acc accD rest, m = ds.length - i ∧ i ≤ ds.length ∧ Evo W1 W2 ∧ Rw K W2 M2 H ∧ H La = some (.lst acc) ∧ RepsW K W2 acc accD ∧ W2.G La = none ∧ W2.B La = none ∧ W2.O La = none ∧ La ∉ W2.al ∧
    compL (wipeE env vs) tg cond elt (ds.drop i) M2 = some (rest, M') ∧ accD ++ rest = ys,
    ⟨ds.length, W1, M1, [], [], ys, rfl, Nat.zero_le _, Evo.refl _, w1.new hD _, upd_same, .nil, d1, d2, d3, d4, e2, rfl⟩, ?_⟩
  rintro i m H2 ⟨W2, M2, acc, accD, rest, rfl, hi, ev2, w2, hDacc, rac, g2, b2, o2, m2, hc, htot⟩
  have wb := w2.addB hDacc g2 o2 m2
  obtain ⟨stop, go⟩ := itok i { W2 with B := upd W2.B La (.lst acc) } M2 H2 ⟨ev2.g, ev2.o, ev2.al⟩ wb
  by_cases hlt : i < ds.length
  · obtain ⟨hgo, hy⟩ := go ds[i] (List.getElem?_eq_getElem hlt)
    refine .inr ⟨hgo, fun H => ∃ W2 M2 acc accD rest, i + 1 ≤ ds.length ∧ Evo W1 W2 ∧ Rw K W2 M2 H ∧ H La = some (.lst acc) ∧ RepsW K W2 acc accD ∧ W2.G La = none ∧ W2.B La = none ∧ W2.O La = none ∧ La ∉ W2.al ∧
      compL (wipeE env vs) tg cond elt (ds.drop (i + 1)) M2 = some (rest, M') ∧ accD ++ rest = ys, ?_, fun x H' hyl => ?_⟩
    · rintro H3 ⟨W3, M3, acc3, accD3, rest3, a1, a2⟩
      exact ⟨ds.length - (i + 1), by omega, W3, M3, acc3, accD3, rest3, rfl, a1, a2⟩
    · obtain ⟨W3, ev3, w3, r3⟩ := hy x H' hyl
      rw [List.drop_eq_getElem_cons hlt] at hc
      unfold compL at hc
      split at hc
      · rename_i env1 hb
        have re3 : Re K W3 (wipeE env vs) (wipe σ vs) := by
          have z : EvoO W1 W3 := ⟨ev2.g.trans ev3.g, ev3.o.trans ev2.o, ev2.al.trans ev3.al⟩
          refine ⟨re1.len, fun j s hj => ?_, re1.inj⟩
          have y := re1.at_ j s hj
          generalize (L2.wipe σ vs)[j]? = oo at y ⊢
          cases y with
          | no => exact .no
          | fz y => exact .fz (Rep.mono z.g z.al y)
          | own y yr => exact .own (by rw [z.o]; exact y) (yr.mono z.g z.al)
        refine ⟨W3, wipeE env vs, M2, ds[i], env1, w3, re3, r3, hb, fun σ2 re4 hf hl => ⟨?_, ?_⟩⟩
        · -- only the target's slots have changed
          apply List.ext_getElem?
          intro j
          rw [wipe_get, wipe_get, hl, wipe_length]
          by_cases hj : j ∈ vs ∧ j < σ.length
          · rw [if_pos hj, if_pos hj]
          · rw [if_neg hj, if_neg hj]
            by_cases hjv : j ∈ vs
            · have hge : σ.length ≤ j := by
                rcases Nat.lt_or_ge j σ.length with z | z
                · exact absurd ⟨hjv, z⟩ hj
                · exact z
              rw [List.getElem?_eq_none (by rw [hl, wipe_length]; exact hge), List.getElem?_eq_none hge]
            · rw [hf j fun z => hjv (hsub j z), wipe_get, if_neg fun z => hjv z.1]
        · -- a turn's end
          have fin : ∀ {W4 : Wd} {M4 : List MO} {H4 : Hp} {acc' : List V} {accD' rest' : List D}, Evo W3 W4 → Rw K W4 M4 H4 → RepsW K W4 acc' accD' → compL (wipeE env vs) tg cond elt (ds.drop (i + 1)) M4 = some (rest', M') → accD' ++ rest' = ys →
              ∃ W2 M2 acc accD rest, i + 1 ≤ ds.length ∧ Evo W1 W2 ∧ Rw K W2 M2 (upd H4 La (.lst acc')) ∧ (upd H4 La (.lst acc')) La = some (.lst acc) ∧ RepsW K W2 acc accD ∧ W2.G La = none ∧ W2.B La = none ∧ W2.O La = none ∧ La ∉ W2.al ∧
                compL (wipeE env vs) tg cond elt (ds.drop (i + 1)) M2 = some (rest, M') ∧ accD ++ rest = ys := fun {W4 M4 H4 acc' accD' rest'} ev4 w4 rr c4 t4 => by
            have hB : W4.B = upd W2.B La (.lst acc) := ev4.b.trans ev3.b
            obtain ⟨wd, x1, x2, x3, x4⟩ := w4.delB (o' := .lst acc') hB b2
            have ev : Evo W1 { W4 with B := W2.B } := ⟨(ev2.g.trans ev3.g).trans ev4.g, ev2.b, (ev4.o.trans ev3.o).trans ev2.o, (ev2.al.trans ev3.al).trans ev4.al⟩
            exact ⟨{ W4 with B := W2.B }, M4, acc', accD', rest', hlt, ev, wd, upd_same, rr, x1, b2, x2, x3, c4, t4⟩
          split at hc
          · rename_i M3 hcond
            refine ⟨W3, env1, M2, true, M3, w3, re4, hcond, fun H4 W4 ev4 w4 => ?_⟩
            refine iteT ?_
            split at hc
            · rename_i y M4 helt
              split at hc
              · rename_i zs M5 hrest
                cases hc
                refine ⟨W4, env1, M3, y, M4, w4, re4.evo ev4, helt, fun v H5 W5 ev5 w5 r5 => ?_⟩
                have hB : W5.B = upd W2.B La (.lst acc) := (ev5.b.trans ev4.b).trans ev3.b
                have hD5 : H5 La = some (.lst acc) := w5.b _ _ (by rw [hB, upd_same])
                refine ⟨acc, hD5, ?_, fin (ev4.trans ev5) w5 (((rac.mono ev3.g ev3.al).mono ev4.g ev4.al).mono ev5.g ev5.al |>.snoc r5) hrest (by rw [List.append_assoc]; exact htot)⟩
                have hla := rac.length
                have hly := congrArg List.length htot
                rw [List.length_append, List.length_cons] at hly
                have hlim : LIM = sizeLine := rfl
                omega
              · cases hc
            · cases hc
          · rename_i M3 hcond
            refine ⟨W3, env1, M2, false, M3, w3, re4, hcond, fun H4 W4 ev4 w4 => ?_⟩
            refine iteF ?_
            have hB : W4.B = upd W2.B La (.lst acc) := ev4.b.trans ev3.b
            have hD4 : H4 La = some (.lst acc) := w4.b _ _ (by rw [hB, upd_same])
            have hu : upd H4 La (.lst acc) = H4 := by
              funext c
              by_cases z : c = La
              · rw [z, upd_same, hD4]
              · rw [upd_ne z]
            have z := fin ev4 w4 ((rac.mono ev3.g ev3.al).mono ev4.g ev4.al) hc htot
            rw [hu] at z
            exact z
          · cases hc
      · cases hc
  · have e3 : i = ds.length := by omega
    subst e3
    rw [List.drop_length] at hc
    cases hc
    rw [List.append_nil] at htot
    subst htot
    exact .inl ⟨stop rfl, q _ _ _ (ev1.trans ev2) w2 (.new hDacc (.lst rac) g2 b2 o2 m2)⟩
section
variable {X : Cx}
theorem ptsNil : PTs X [] (tT X.K eYes) := ⟨fun pins s σ H Q I h => pts_nil.run pins s σ H Q I (by
  obtain ⟨W, env, M, b, M', w, re, e, q⟩ := h
  cases e
  exact q _ _ (Evo.refl W) w)⟩
theorem pComp {elt tg iter : Expr} {ifs : List Expr} {scope : Scope} {own : List (Str × Nat)} {pos : Pos} {it : EI} {t : Tg} {cond : EB} {f : EP} (hc : X.calm = true) (hN : X.N.Nodup) (hi : PI X tg iter (tI X.K it)) (ok : BlkOk X.N X.env.scope scope own)
    (hg : ∀ (s : Shared) (H : Hp) (C : Addr) (cl : List (Str × Addr)) (fp : List Addr), PG (X.blk s H scope (compEnvC scope cl C X.env) fp) tg (tG X.K t))
    (ht : ∀ (s : Shared) (H : Hp) (C : Addr) (cl : List (Str × Addr)) (fp : List Addr), PTs (X.blk s H scope (compEnvC scope cl C X.env) fp) ifs (tT X.K cond))
    (he : ∀ (s : Shared) (H : Hp) (C : Addr) (cl : List (Str × Addr)) (fp : List Addr), PE (X.blk s H scope (compEnvC scope cl C X.env) fp) elt (tF X.K f))
    (hs : ∀ x, foldedSetIterable iter X.env x = pure x) (hsub : ∀ j ∈ t.slots, j ∈ own.map (·.2)) :
    PE X (.ListComp elt [⟨tg, iter, ifs, 0⟩] scope pos) (tE X.K (eComp (own.map (·.2)) it t cond f)) := PE.imp (pe_lc hc hN hi ok hg ht he hs) fun _ _ _ h => tLc_of hsub h
end
end R

set_option Elab.async false
set_option linter.all false
set_option maxRecDepth 100000
set_option maxHeartbeats 2000000
/-! R7: statements -/
namespace R
open PySem PySem.Spec PyProof.Rows L2

inductive Fl where
  | nx | ct | bk | rt (r : D × Bool)
abbrev ES := Env → List MO → Option (Fl × Env × List MO)
/-- what is wanted behind an end -/
def EndOk (K : PySem.W.Frag) (Dd : Ends) (fl : Fl) (env : Env) (W : Wd) (σ : L2.St) (H : Hp) : Prop :=
  match fl with
  | .nx => Re K W env σ → Dd.nx σ H
  | .ct => Re K W env σ → Dd.ct σ H
  | .bk => Re K W env σ → Dd.bk σ H
  | .rt r => ∀ v, RepR K W H r v → Dd.rt v H
def tS (K : PySem.W.Frag) (f : ES) : TS := fun Dd σ H => ∃ W env M fl env' M', Rw K W M H ∧ Re K W env σ ∧ f env M = some (fl, env', M') ∧ ∀ σ' H' W', EvoS W W' → Rw K W' M' H' → EndOk K Dd fl env' W' σ' H'

/-! ### own lists -/
def delH (O : Hp) (a : Addr) : Hp := fun b => if b = a then none else O b
theorem delH_same {O : Hp} {a : Addr} : delH O a a = none := by
  unfold delH
  rw [if_pos rfl]
theorem delH_ne {O : Hp} {a b : Addr} (h : b ≠ a) : delH O a b = O b := by
  unfold delH
  rw [if_neg h]
theorem delH_le {O : Hp} {a : Addr} : Le (delH O a) O := fun c u q => by
  by_cases z : c = a
  · rw [z, delH_same] at q
    cases q
  · rw [delH_ne z] at q
    exact q
section
variable {K : PySem.W.Frag} {W : Wd} {M : List MO} {H : Hp}
/-- a new object becomes the frame's own -/
theorem Rw.own (w : Rw K W M H) {a : Addr} {o : HO} (h : H a = some o) (g : W.G a = none) (b : W.B a = none) (m : a ∉ W.al) : EvoS W { W with O := upd W.O a o } ∧ Rw K { W with O := upd W.O a o } M H := by
  refine ⟨⟨Le.refl _, rfl, Pre.refl _⟩, ⟨w.g, w.b, fun c u q => ?_, fun c q => ?_, fun c q => ?_, fun c hc => ?_, w.nd, w.ml, w.mo⟩⟩
  · have q' : upd W.O a o c = some u := q
    by_cases z : c = a
    · rw [z, upd_same] at q'
      cases q'
      rw [z]
      exact h
    · rw [upd_ne z] at q'
      exact w.o _ _ q'
  · have z : c ≠ a := fun z => q (by rw [z]; exact g)
    refine ⟨(w.gb c q).1, ?_⟩
    show upd W.O a o c = none
    rw [upd_ne z]
    exact (w.gb c q).2
  · have z : c ≠ a := fun z => q (by rw [z]; exact b)
    show upd W.O a o c = none
    rw [upd_ne z]
    exact w.bo c q
  · have z : c ≠ a := fun z => m (z ▸ hc)
    refine ⟨(w.ag c hc).1, (w.ag c hc).2.1, ?_⟩
    show upd W.O a o c = none
    rw [upd_ne z]
    exact (w.ag c hc).2.2
/-- the frame's own list is let go -/
theorem Rw.unown (w : Rw K W M H) (a : Addr) : EvoS W { W with O := delH W.O a } ∧ Rw K { W with O := delH W.O a } M H := by
  have n : ∀ c, W.O c = none → delH W.O a c = none := fun c q => by
    by_cases z : c = a
    · rw [z]
      exact delH_same
    · rw [delH_ne z]
      exact q
  exact ⟨⟨Le.refl _, rfl, Pre.refl _⟩, ⟨w.g, w.b, delH_le.trans w.o, fun c q => ⟨(w.gb c q).1, n c (w.gb c q).2⟩, fun c q => n c (w.bo c q), fun c hc => ⟨(w.ag c hc).1, (w.ag c hc).2.1, n c (w.ag c hc).2.2⟩, w.nd, w.ml, w.mo⟩⟩
theorem Rw.oo (w : Rw K W M H) {a : Addr} {o : HO} (h : W.O a = some o) : W.G a = none ∧ W.B a = none ∧ a ∉ W.al := by
  have hne : W.O a ≠ none := by
    rw [h]
    exact fun z => nomatch z
  refine ⟨?_, ?_, fun hm => hne (w.ag a hm).2.2⟩
  · cases q : W.G a with
    | none => rfl
    | some u => exact absurd (w.gb a (by rw [q]; exact fun z => nomatch z)).2 hne
  · cases q : W.B a with
    | none => rfl
    | some u => exact absurd (w.bo a (by rw [q]; exact fun z => nomatch z)) hne
/-- the frame's own list is changed -/
theorem Rw.write (w : Rw K W M H) {a : Addr} {o o' : HO} (h : W.O a = some o) : EvoS W { W with O := upd W.O a o' } ∧ Rw K { W with O := upd W.O a o' } M (upd H a o') := by
  obtain ⟨g, b, m⟩ := w.oo h
  have keep : ∀ {F : Hp}, Le F H → F a = none → Le F (upd H a o') := fun {F} l n c u q => by
    rw [upd_ne fun z => by rw [z, n] at q; cases q]
    exact l c u q
  refine ⟨⟨Le.refl _, rfl, Pre.refl _⟩, ⟨keep w.g g, keep w.b b, fun c u q => ?_, fun c q => ?_, fun c q => ?_, fun c hc => ?_, w.nd, w.ml, fun n c mm h1 h2 => ?_⟩⟩
  · have q' : upd W.O a o' c = some u := q
    by_cases z : c = a
    · rw [z] at q' ⊢
      rw [upd_same] at q' ⊢
      exact q'
    · rw [upd_ne z] at q' ⊢
      exact w.o _ _ q'
  · have z : c ≠ a := fun z => q (by rw [z]; exact g)
    refine ⟨(w.gb c q).1, ?_⟩
    show upd W.O a o' c = none
    rw [upd_ne z]
    exact (w.gb c q).2
  · have z : c ≠ a := fun z => q (by rw [z]; exact b)
    show upd W.O a o' c = none
    rw [upd_ne z]
    exact w.bo c q
  · have z : c ≠ a := fun z => m (z ▸ hc)
    refine ⟨(w.ag c hc).1, (w.ag c hc).2.1, ?_⟩
    show upd W.O a o' c = none
    rw [upd_ne z]
    exact (w.ag c hc).2.2
  · have z : c ≠ a := fun z => m (z ▸ List.mem_of_getElem? h1)
    exact (w.mo n c mm h1 h2).mono (Le.refl _) (Pre.refl _) (upd_ne z)
/-- slots, where an own object is changed or let go at a place that no other own slot has -/
theorem Re.off {env : Env} {σ : L2.St} {a : Addr} {O : Hp} {i : Nat} (re : Re K W env σ) (hO : ∀ c, c ≠ a → O c = W.O c) (hi : ∀ j d, env[j]? = some (.own d) → σ[j]? = some (some (.ref a)) → j = i) :
    ∀ (j : Nat) (s : Sl), j ≠ i → env[j]? = some s → SlOk K { W with O := O } s σ[j]? := fun j s hj hs => by
  have y := re.at_ j s hs
  generalize hx : σ[j]? = x at y ⊢
  cases y with
  | no => exact .no
  | fz y => exact .fz y
  | own y r =>
    rename_i b o d
    have hb : b ≠ a := fun z => hj (hi j _ hs (by rw [hx, z]))
    exact .own (by show O b = _; rw [hO b hb]; exact y) r
end

/-! ### a slot is frozen -/
def frz1 (env : Env) (i : Nat) : Env := match env[i]? with
  | some (.own d) => env.set i (.fz d)
  | _ => env
def frzs (env : Env) (is : List Nat) : Env := is.foldl frz1 env
def sPre (is : List Nat) (f : ES) : ES := fun env M => f (frzs env is) M
theorem Re.frz1 {K : PySem.W.Frag} {W : Wd} {M : List MO} {H : Hp} {env : Env} {σ : L2.St} (w : Rw K W M H) (re : Re K W env σ) (i : Nat) : ∃ W', EvoS W W' ∧ Rw K W' M H ∧ Re K W' (frz1 env i) σ := by
  unfold R.frz1
  split
  · rename_i d hd
    have y := re.at_ i _ hd
    have hlt : i < env.length := (List.getElem?_eq_some_iff.mp hd).1
    cases hx : σ[i]? with
    | none =>
      rw [hx] at y
      cases y
    | some x =>
      rw [hx] at y
      cases y with
      | own y r =>
        rename_i a o
        obtain ⟨g, b, m⟩ := w.oo y
        obtain ⟨e1, w1⟩ := w.unown a
        obtain ⟨e2, w2⟩ := w1.freeze (a := a) (o := o) (w.o _ _ y) g b delH_same m
        refine ⟨_, e1.trans e2.s, w2, ⟨by rw [List.length_set]; exact re.len, fun j s hj => ?_, fun j k d1 d2 a' h1 h2 h3 h4 => ?_⟩⟩
        · by_cases z : i = j
          · subst z
            rw [List.getElem?_set_self hlt] at hj
            cases hj
            rw [hx]
            exact .fz ((r.mono e2.g e2.al).rep upd_same)
          · rw [List.getElem?_set_ne z] at hj
            have q := re.off (a := a) (O := delH W.O a) (i := i) (fun c hc => delH_ne hc) (fun j d' h1 h2 => re.inj j i d' d a h1 hd h2 hx) j s (Ne.symm z) hj
            exact q.evo e2
        · have n : ∀ {j : Nat} {d' : D}, (env.set i (.fz d))[j]? = some (.own d') → i ≠ j := fun {j d'} h z => by
            subst z
            rw [List.getElem?_set_self hlt] at h
            cases h
          have n1 := n h1
          have n2 := n h2
          rw [List.getElem?_set_ne n1] at h1
          rw [List.getElem?_set_ne n2] at h2
          exact re.inj j k d1 d2 a' h1 h2 h3 h4
  · exact ⟨W, EvoS.refl W, w, re⟩
theorem Re.frzs {K : PySem.W.Frag} {M : List MO} {H : Hp} {σ : L2.St} : ∀ (is : List Nat) {W : Wd} {env : Env}, Rw K W M H → Re K W env σ → ∃ W', EvoS W W' ∧ Rw K W' M H ∧ Re K W' (R.frzs env is) σ
  | [], W, env, w, re => ⟨W, EvoS.refl W, w, re⟩
  | i :: is, W, env, w, re => by
    obtain ⟨W1, e1, w1, re1⟩ := Re.frz1 w re i
    obtain ⟨W2, e2, w2, re2⟩ := Re.frzs is w1 re1
    exact ⟨W2, e1.trans e2, w2, re2⟩
theorem EndOk.from {K : PySem.W.Frag} {Dd : Ends} {fl : Fl} {env : Env} {W : Wd} {σ : L2.St} {H : Hp} (h : EndOk K Dd fl env W σ H) : EndOk K Dd fl env W σ H := h
theorem tS_pre {K : PySem.W.Frag} {is : List Nat} {f : ES} {Dd : Ends} {σ : L2.St} {H : Hp} (h : tS K (sPre is f) Dd σ H) : tS K f Dd σ H := by
  obtain ⟨W, env, M, fl, env', M', w, re, e, q⟩ := h
  obtain ⟨W1, e1, w1, re1⟩ := Re.frzs is w re
  exact ⟨W1, _, M, fl, env', M', w1, re1, e, fun σ' H' W' e2 w2 => q σ' H' W' (e1.trans e2) w2⟩

/-! ### x = e -/
def putSl (env : Env) (i : Nat) (r : D × Bool) : Env := env.set i (if r.2 then .own r.1 else .fz r.1)
def sSet (i : Nat) (f : EE) : ES := fun env M => match f env M with
  | some (r, M') => if i < env.length then some (.nx, putSl env i r, M') else none
  | none => none
theorem Re.put {K : PySem.W.Frag} {W : Wd} {M : List MO} {H : Hp} {env : Env} {σ : L2.St} {i : Nat} {r : D × Bool} {v : V} (w : Rw K W M H) (re : Re K W env σ) (hi : i < env.length) (rr : RepR K W H r v) :
    ∃ W', EvoS W W' ∧ Rw K W' M H ∧ Re K W' (putSl env i r) (σ.set i (some v)) := by
  cases rr with
  | old h => exact ⟨W, EvoS.refl W, w, re.setFz hi h⟩
  | new h rr g b oo m =>
    rename_i a o d
    obtain ⟨e1, w1⟩ := w.own h g b m
    have hl := re.len
    have nob : ∀ (j : Nat) (d' : D), env[j]? = some (.own d') → σ[j]? = some (some (.ref a)) → False := fun j d' h1 h2 => by
      have y := re.at_ j _ h1
      rw [h2] at y
      cases y with
      | own y _ =>
        rw [oo] at y
        cases y
    refine ⟨_, e1, w1, ⟨by unfold putSl; rw [List.length_set, List.length_set]; exact hl, fun j s hj => ?_, fun j k d1 d2 a' h1 h2 h3 h4 => ?_⟩⟩
    · unfold putSl at hj
      by_cases z : i = j
      · subst z
        rw [List.getElem?_set_self hi] at hj
        cases hj
        rw [List.getElem?_set_self (by omega)]
        exact .own upd_same rr
      · rw [List.getElem?_set_ne z] at hj ⊢
        exact re.off (a := a) (O := upd W.O a o) (i := i) (fun c hc => upd_ne hc) (fun j d' h1 h2 => (nob j d' h1 h2).elim) j s (Ne.symm z) hj
    · unfold putSl at h1 h2
      by_cases z : i = j
      · subst z
        rw [List.getElem?_set_self (by omega)] at h3
        cases h3
        by_cases y : i = k
        · exact y
        · rw [List.getElem?_set_ne y] at h2 h4
          exact (nob k _ h2 h4).elim
      · rw [List.getElem?_set_ne z] at h1 h3
        by_cases y : i = k
        · subst y
          rw [List.getElem?_set_self (by omega)] at h4
          cases h4
          exact (nob j _ h1 h3).elim
        · rw [List.getElem?_set_ne y] at h2 h4
          exact re.inj j k d1 d2 a' h1 h2 h3 h4
theorem tAsg_of {K : PySem.W.Frag} {te : TE} {f : EE} {i : Nat} {Dd : Ends} {σ : L2.St} {H : Hp} (hte : ∀ σ H Q, tE K f σ H Q → te σ H Q) (h : tS K (sSet i f) Dd σ H) : tAsg te (gName i) Dd σ H := by
  obtain ⟨W, env, M, fl, env', M', w, re, e, q⟩ := h
  unfold sSet at e
  split at e
  · rename_i r M1 hf
    split at e
    · rename_i hi
      cases e
      refine hte _ _ _ ⟨W, env, M, r, _, w, re, hf, fun v H' W' e1 w1 rr => ?_⟩
      obtain ⟨W2, e2, w2, re2⟩ := Re.put w1 (re.evo e1) hi rr
      exact q _ _ W2 (e1.s.trans e2) w2 re2
    · cases e
  · cases e

/-! ### a, b = e; a, b = e1, e2 -/
def sTup (t : Tg) (f : EP) : ES := fun env M => match f env M with
  | some (d, M') => (t.bind d env).map fun e1 => (.nx, e1, M')
  | none => none
theorem tAsg_tup {K : PySem.W.Frag} {f : EP} {t : Tg} {Dd : Ends} {σ : L2.St} {H : Hp} (h : tS K (sTup t f) Dd σ H) : tAsg (tF K f) (tG K t) Dd σ H := by
  obtain ⟨W, env, M, fl, env', M', w, re, e, q⟩ := h
  unfold sTup at e
  split at e
  · rename_i d M1 hf
    cases hb : t.bind d env with
    | none =>
      rw [hb] at e
      cases e
    | some e1 =>
      rw [hb] at e
      cases e
      exact ⟨W, env, M, d, _, w, re, hf, fun v H' W' ev w1 rr => ⟨W', env, _, d, _, w1, re.evo ev, rr, hb, fun σ' re' _ _ => q _ _ W' ev.s w1 re'⟩⟩
  · cases e
def sPar (i j : Nat) (f g : EE) : ES := fun env M => match f env M with
  | some (r, M1) => match g env M1 with
    | some (t, M2) => if i < env.length ∧ j < env.length ∧ i ≠ j then some (.nx, putSl (putSl env i r) j t, M2) else none
    | none => none
  | none => none
theorem RepR.keep {K : PySem.W.Frag} {W W' : Wd} {M : List MO} {H : Hp} {v : V} {d : D} {a : Addr} {o : HO} (w : Rw K W' M H) (e : Evo W W') (h : W.O a = some o) (r : Ow K W.G W.al o d) : H a = some o ∧ Ow K W'.G W'.al o d := ⟨w.o _ _ (by rw [e.o]; exact h), r.mono e.g e.al⟩
theorem tPar_of {K : PySem.W.Frag} {ta tb : TE} {f g : EE} {i j : Nat} {Dd : Ends} {σ : L2.St} {H : Hp} (ha : ∀ σ H Q, tE K f σ H Q → ta σ H Q) (hb : ∀ σ H Q, tE K g σ H Q → tb σ H Q) (h : tS K (sPar i j f g) Dd σ H) : tPar i j (tCons ta (tCons tb tNil)) Dd σ H := by
  obtain ⟨W, env, M, fl, env', M', w, re, e, q⟩ := h
  unfold sPar at e
  split at e
  · rename_i r M1 hf
    split at e
    · rename_i t M2 hg
      split at e
      · rename_i hc
        cases e
        refine ha _ _ _ ⟨W, env, M, r, M1, w, re, hf, fun v H1 W1 e1 w1 rr => ?_⟩
        have re1 := re.evo e1
        -- the first value is put aside
        cases rr with
        | old h1 =>
          refine hb _ _ _ ⟨W1, env, M1, t, _, w1, re1, hg, fun u H2 W2 e2 w2 rt => ?_⟩
          refine ⟨v, u, rfl, ?_⟩
          have re2 := (re1.evo e2).setFz hc.1 (h1.evo e2)
          obtain ⟨W3, e3, w3, re3⟩ := Re.put w2 re2 (by rw [List.length_set]; exact hc.2.1) rt
          exact q _ _ W3 ((e1.s.trans e2.s).trans e3) w3 re3
        | new h1 rr g1 b1 oo1 m1 =>
          rename_i a o d
          obtain ⟨eo, wo⟩ := w1.own h1 g1 b1 m1
          have nob : ∀ (j : Nat) (d' : D), env[j]? = some (.own d') → σ[j]? = some (some (.ref a)) → False := fun j d' h1 h2 => by
            have y := re1.at_ j _ h1
            rw [h2] at y
            cases y with
            | own y _ =>
              rw [oo1] at y
              cases y
          have reo : Re K { W1 with O := upd W1.O a o } env σ := ⟨re1.len, fun j s hj => re1.off (a := a) (O := upd W1.O a o) (i := env.length + j + 1) (fun c hc => upd_ne hc) (fun j d' h1 h2 => (nob j d' h1 h2).elim) j s (by omega) hj, re1.inj⟩
          refine hb _ _ _ ⟨_, env, M1, t, _, wo, reo, hg, fun u H2 W2 e2 w2 rt => ?_⟩
          refine ⟨.ref a, u, rfl, ?_⟩
          have ha2 : W2.O a = some o := by
            rw [e2.o]
            exact upd_same
          have reo2 := reo.evo e2
          have re2 : Re K W2 (putSl env i (d, true)) (σ.set i (some (.ref a))) := by
            have hl := reo2.len
            refine ⟨by unfold putSl; rw [List.length_set, List.length_set]; exact hl, fun j s hj => ?_, fun j k d1 d2 a' h1 h2 h3 h4 => ?_⟩
            · unfold putSl at hj
              by_cases z : i = j
              · subst z
                rw [List.getElem?_set_self hc.1] at hj
                cases hj
                rw [List.getElem?_set_self (by omega)]
                exact .own ha2 (rr.mono e2.g e2.al)
              · rw [List.getElem?_set_ne z] at hj ⊢
                exact reo2.at_ j s hj
            · unfold putSl at h1 h2
              by_cases z : i = j
              · subst z
                rw [List.getElem?_set_self (by omega)] at h3
                cases h3
                by_cases y : i = k
                · exact y
                · rw [List.getElem?_set_ne y] at h2 h4
                  exact (nob k _ h2 h4).elim
              · rw [List.getElem?_set_ne z] at h1 h3
                by_cases y : i = k
                · subst y
                  rw [List.getElem?_set_self (by omega)] at h4
                  cases h4
                  exact (nob j _ h1 h3).elim
                · rw [List.getElem?_set_ne y] at h2 h4
                  exact reo2.inj j k d1 d2 a' h1 h2 h3 h4
          obtain ⟨W3, e3, w3, re3⟩ := Re.put w2 re2 (by unfold putSl; rw [List.length_set]; exact hc.2.1) rt
          exact q _ _ W3 (((e1.s.trans eo).trans e2.s).trans e3) w3 re3
      · cases e
    · cases e
  · cases e

/-! ### plain statements -/
def sNx : ES := fun env M => some (.nx, env, M)
def sCt : ES := fun env M => some (.ct, env, M)
def sBk : ES := fun env M => some (.bk, env, M)
def sNone : ES := fun _ _ => none
def sEx (f : EE) : ES := fun env M => match f env M with
  | some (_, M') => some (.nx, env, M')
  | none => none
def sRet (f : EE) : ES := fun env M => match f env M with
  | some (r, M') => some (.rt r, env, M')
  | none => none
def sRetN : ES := fun env M => some (.rt (.non, false), env, M)
/-- return x: an own list is handed on -/
def sRetV (i : Nat) : ES := fun env M => match env[i]? with
  | some (.fz d) => some (.rt (d, false), env, M)
  | some (.own d) => some (.rt (d, true), env, M)
  | _ => none
def sSeq (f g : ES) : ES := fun env M => match f env M with
  | some (.nx, e1, M1) => g e1 M1
  | r => r
def sIf (c : EB) (f g : ES) : ES := fun env M => match c env M with
  | some (true, M1) => f env M1
  | some (false, M1) => g env M1
  | none => none
section
variable {X : Cx} {pos : Pos} {e : Expr} {st : Stmt} {rest : List Stmt}
theorem sPass : PS X (.Pass pos) (tS X.K sNx) := PS.imp ps_pass fun Dd σ H h => by
  obtain ⟨W, env, M, fl, env', M', w, re, e, q⟩ := h
  cases e
  exact q _ _ W (EvoS.refl W) w re
theorem sCont : PS X (.Continue pos) (tS X.K sCt) := PS.imp ps_continue fun Dd σ H h => by
  obtain ⟨W, env, M, fl, env', M', w, re, e, q⟩ := h
  cases e
  exact q _ _ W (EvoS.refl W) w re
theorem sBreak : PS X (.Break pos) (tS X.K sBk) := PS.imp ps_break fun Dd σ H h => by
  obtain ⟨W, env, M, fl, env', M', w, re, e, q⟩ := h
  cases e
  exact q _ _ W (EvoS.refl W) w re
theorem sNever : PS X st (tS X.K sNone) := PS.imp ps_never fun Dd σ H h => by
  obtain ⟨W, env, M, fl, env', M', w, re, e, q⟩ := h
  cases e
theorem sExpr {f : EE} (he : PE X e (tE X.K f)) (hs : swapsWith e none pos.line X.env = pure false) : PS X (.Expr e pos) (tS X.K (sEx f)) := PS.imp (ps_expr he hs) fun Dd σ H h => by
  obtain ⟨W, env, M, fl, env', M', w, re, e, q⟩ := h
  unfold sEx at e
  split at e
  · rename_i r M1 hf
    cases e
    exact ⟨W, env, M, r, _, w, re, hf, fun v H' W' ev w1 rr => q _ _ W' ev.s w1 (re.evo ev)⟩
  · cases e
theorem sReturn {f : EE} (he : PE X e (tE X.K f)) : PS X (.Return (some e) pos) (tS X.K (sRet f)) := PS.imp (ps_ret he) fun Dd σ H h => by
  obtain ⟨W, env, M, fl, env', M', w, re, e, q⟩ := h
  unfold sRet at e
  split at e
  · rename_i r M1 hf
    cases e
    exact ⟨W, env, M, r, _, w, re, hf, fun v H' W' ev w1 rr => q σ H' W' ev.s w1 v rr⟩
  · cases e
theorem sReturnN : PS X (.Return none pos) (tS X.K sRetN) := PS.imp ps_retN fun Dd σ H h => by
  obtain ⟨W, env, M, fl, env', M', w, re, e, q⟩ := h
  cases e
  exact q σ H W (EvoS.refl W) w _ (.old .non)
theorem sReturnV {i : Nat} {x : Str} {p2 : Pos} (hN : X.N[i]? = some x) (hv : Vis X.env.scope x) (hd : (x == ("__debug__" : Str)) = false) (hcd : (x == ("__classdict__" : Str)) = false) : PS X (.Return (some (.Name x p2)) pos) (tS X.K (sRetV i)) := PS.imp (ps_ret (pe_var hN hv hd hcd)) fun Dd σ H h => by
  obtain ⟨W, env, M, fl, env', M', w, re, e, q⟩ := h
  unfold sRetV at e
  split at e
  · rename_i d hd'
    cases e
    have z := re.at_ i _ hd'
    cases hx : σ[i]? with
    | none =>
      rw [hx] at z
      cases z
    | some o =>
      rw [hx] at z
      cases z with
      | fz z => exact ⟨_, hx, q σ H W (EvoS.refl W) w _ (.old z)⟩
  · rename_i d hd'
    cases e
    have z := re.at_ i _ hd'
    cases hx : σ[i]? with
    | none =>
      rw [hx] at z
      cases z
    | some o =>
      rw [hx] at z
      cases z with
      | own z r =>
        rename_i a u
        obtain ⟨g, b, m⟩ := w.oo z
        obtain ⟨e1, w1⟩ := w.unown a
        exact ⟨_, hx, q σ H _ e1 w1 _ (.new (w.o _ _ z) r g b delH_same m)⟩
  · cases e
theorem ssNil : PSs X [] (tS X.K sNx) := PSs.imp pss_nil fun Dd σ H h => by
  obtain ⟨W, env, M, fl, env', M', w, re, e, q⟩ := h
  cases e
  exact q _ _ W (EvoS.refl W) w re
theorem ssOne {f : ES} (h : PS X st (tS X.K f)) : PSs X [st] (tS X.K f) := pss_one h
theorem ssCons {f g : ES} (h1 : PS X st (tS X.K f)) (h2 : PSs X rest (tS X.K g)) : PSs X (st :: rest) (tS X.K (sSeq f g)) := PSs.imp (pss_cons h1 h2) fun Dd σ H h => by
  obtain ⟨W, env, M, fl, env', M', w, re, e, q⟩ := h
  unfold sSeq at e
  split at e
  · rename_i e1 M1 hf
    refine ⟨W, env, M, .nx, e1, M1, w, re, hf, fun σ1 H1 W1 v1 w1 re1 => ?_⟩
    exact ⟨W1, e1, M1, fl, env', M', w1, re1, e, fun σ' H' W' v2 w2 => q σ' H' W' (v1.trans v2) w2⟩
  · rename_i hno
    refine ⟨W, env, M, fl, env', M', w, re, e, fun σ' H' W' v1 w1 => ?_⟩
    have z := q σ' H' W' v1 w1
    cases fl with
    | nx => exact absurd e (hno env' M')
    | ct => exact z
    | bk => exact z
    | rt r => exact z
theorem sIfS {c : Expr} {a b : List Stmt} {fc : EB} {f g : ES} (hc : PT X c (tT X.K fc)) (ha : PSs X a (tS X.K f)) (hb : PSs X b (tS X.K g)) : PS X (.If c a b pos) (tS X.K (sIf fc f g)) := PS.imp (ps_if hc ha hb) fun Dd σ H h => by
  obtain ⟨W, env, M, fl, env', M', w, re, e, q⟩ := h
  unfold sIf at e
  split at e
  · rename_i M1 hf
    refine ⟨W, env, M, true, M1, w, re, hf, fun H1 W1 v1 w1 => ?_⟩
    refine iteT ⟨W1, env, M1, fl, env', M', w1, re.evo v1, e, fun σ' H' W' v2 w2 => q σ' H' W' (v1.s.trans v2) w2⟩
  · rename_i M1 hf
    refine ⟨W, env, M, false, M1, w, re, hf, fun H1 W1 v1 w1 => ?_⟩
    refine iteF ⟨W1, env, M1, fl, env', M', w1, re.evo v1, e, fun σ' H' W' v2 w2 => q σ' H' W' (v1.s.trans v2) w2⟩
  · cases e
end

/-! ### for -/
/-- slots that were not known at the loop are forgotten behind each turn -/
def keep1 (a b : Sl) : Sl := match a with
  | .no => .no
  | _ => b
def keepE : Env → Env → Env
  | [], bs => bs
  | _ :: _, [] => []
  | a :: as, b :: bs => keep1 a b :: keepE as bs
theorem keepE_length : ∀ (as bs : Env), (keepE as bs).length = bs.length
  | [], bs => by rw [keepE]
  | _ :: _, [] => by rw [keepE]
  | _ :: as, _ :: bs => by rw [keepE, List.length_cons, List.length_cons, keepE_length as bs]
theorem keepE_get : ∀ (as bs : Env) (j : Nat) (s : Sl), (keepE as bs)[j]? = some s → (s = .no ∧ j < bs.length) ∨ bs[j]? = some s
  | [], bs, j, s, h => by
    rw [keepE] at h
    exact .inr h
  | _ :: _, [], j, s, h => by
    rw [keepE] at h
    exact .inr h
  | a :: as, b :: bs, 0, s, h => by
    rw [keepE, List.getElem?_cons_zero] at h
    cases h
    cases a with
    | no => exact .inl ⟨rfl, Nat.zero_lt_succ _⟩
    | fz _ => exact .inr rfl
    | own _ => exact .inr rfl
  | a :: as, b :: bs, j + 1, s, h => by
    rw [keepE, List.getElem?_cons_succ] at h
    rw [List.getElem?_cons_succ]
    rcases keepE_get as bs j s h with h | h
    · exact .inl ⟨h.1, Nat.succ_lt_succ h.2⟩
    · exact .inr h
theorem SlOk.toNo {K : PySem.W.Frag} {W : Wd} {s : Sl} {x : Option (Option V)} (h : SlOk K W s x) : SlOk K W .no x := by
  cases h <;> exact .no
theorem Re.keep {K : PySem.W.Frag} {W : Wd} {env : Env} {σ : L2.St} (e0 : Env) (re : Re K W env σ) : Re K W (keepE e0 env) σ := by
  refine ⟨by rw [keepE_length]; exact re.len, fun j s hj => ?_, fun i j d1 d2 a h1 h2 h3 h4 => ?_⟩
  · rcases keepE_get e0 env j s hj with h | h
    · obtain ⟨rfl, hl⟩ := h
      exact (re.at_ j _ (List.getElem?_eq_getElem hl)).toNo
    · exact re.at_ j s h
  · rcases keepE_get e0 env i _ h1 with h | h
    · cases h.1
    · rcases keepE_get e0 env j _ h2 with h' | h'
      · cases h'.1
      · exact re.inj i j d1 d2 a h h' h3 h4
/-- the loop over its items: .bk and the end go on with .nx -/
def forL (e0 : Env) (t : Tg) (body : ES) : List D → Env → List MO → Option (Fl × Env × List MO)
  | [], env, M => some (.nx, env, M)
  | d :: ds, env, M => match t.bind d env with
    | some e1 => match body e1 M with
      | some (.nx, e2, M2) => forL e0 t body ds (keepE e0 e2) M2
      | some (.ct, e2, M2) => forL e0 t body ds (keepE e0 e2) M2
      | some (.bk, e2, M2) => some (.nx, keepE e0 e2, M2)
      | some (.rt r, e2, M2) => some (.rt r, e2, M2)
      | none => none
    | none => none
def sFor (it : EI) (t : Tg) (body : ES) : ES := fun env M => match it env M with
  | some (ds, M1) => forL env t body ds env M1
  | none => none
theorem tFor_of {K : PySem.W.Frag} {it : EI} {t : Tg} {body : ES} {Dd : Ends} {σ : L2.St} {H : Hp} (h : tS K (sFor it t body) Dd σ H) : tFor (tIS K it) (tG K t) (tS K body) Dd σ H := by
  obtain ⟨W, env, M, fl, env', M', w, re, e, q⟩ := h
  unfold sFor at e
  split at e
  · rename_i ds M1 hit
    refine ⟨W, env, M, ds, M1, w, re, hit, fun J H1 W1 v1 w1 itok => ?_⟩
    refine ⟨fun i m σ H => ∃ W2 env2 M2, m = ds.length - i ∧ i ≤ ds.length ∧ EvoS W1 W2 ∧ Rw K W2 M2 H ∧ Re K W2 env2 σ ∧ forL env t body (ds.drop i) env2 M2 = some (fl, env', M'),
      ⟨ds.length, W1, env, M1, rfl, Nat.zero_le _, EvoS.refl _, w1, re.evo v1, e⟩, ?_⟩
    rintro i m σ2 H2 ⟨W2, env2, M2, rfl, hi, v2, w2, re2, hl⟩
    obtain ⟨stop, go⟩ := itok i W2 M2 H2 v2.gg w2
    by_cases hlt : i < ds.length
    · obtain ⟨hgo, hy⟩ := go ds[i] (List.getElem?_eq_getElem hlt)
      refine .inr ⟨hgo, fun σ H => ∃ W2 env2 M2, EvoS W1 W2 ∧ Rw K W2 M2 H ∧ Re K W2 env2 σ ∧ forL env t body (ds.drop (i + 1)) env2 M2 = some (fl, env', M'), ?_, fun x H' hyl => ?_⟩
      · rintro σ3 H3 ⟨W3, env3, M3, a1, a2, a3, a4⟩
        exact ⟨ds.length - (i + 1), by omega, W3, env3, M3, rfl, hlt, a1, a2, a3, a4⟩
      · obtain ⟨W3, v3, w3, r3⟩ := hy x H' hyl
        rw [List.drop_eq_getElem_cons hlt] at hl
        unfold forL at hl
        split at hl
        · rename_i e1 hb
          refine ⟨W3, env2, M2, ds[i], e1, w3, re2.evo v3, r3, hb, fun σ4 re4 _ _ => ?_⟩
          have v13 : EvoS W1 W3 := v2.trans v3.s
          split at hl
          · rename_i e2 M4 hbody
            exact ⟨W3, e1, M2, .nx, e2, M4, w3, re4, hbody, fun σ5 H5 W5 v5 w5 re5 => ⟨W5, _, M4, v13.trans v5, w5, re5.keep env, hl⟩⟩
          · rename_i e2 M4 hbody
            exact ⟨W3, e1, M2, .ct, e2, M4, w3, re4, hbody, fun σ5 H5 W5 v5 w5 re5 => ⟨W5, _, M4, v13.trans v5, w5, re5.keep env, hl⟩⟩
          · rename_i e2 M4 hbody
            cases hl
            exact ⟨W3, e1, M2, .bk, _, _, w3, re4, hbody, fun σ5 H5 W5 v5 w5 re5 => q σ5 H5 W5 (v1.s.trans (v13.trans v5)) w5 (re5.keep env)⟩
          · rename_i r e2 M4 hbody
            cases hl
            exact ⟨W3, e1, M2, .rt _, _, _, w3, re4, hbody, fun σ5 H5 W5 v5 w5 v rv => q σ5 H5 W5 (v1.s.trans (v13.trans v5)) w5 v rv⟩
          · cases hl
        · cases hl
    · have e3 : i = ds.length := by omega
      subst e3
      rw [List.drop_length] at hl
      cases hl
      exact .inl ⟨stop rfl, q _ _ W2 (v1.s.trans v2) w2 re2⟩
  · cases e

/-! ### while -/
def WLIM : Nat := 5000
def whL (e0 : Env) (c : EB) (body : ES) : Nat → Env → List MO → Option (Fl × Env × List MO)
  | 0, _, _ => none
  | n + 1, env, M => match c env M with
    | some (true, M1) => match body env M1 with
      | some (.nx, e2, M2) => whL e0 c body n (keepE e0 e2) M2
      | some (.ct, e2, M2) => whL e0 c body n (keepE e0 e2) M2
      | some (.bk, e2, M2) => some (.nx, keepE e0 e2, M2)
      | some (.rt r, e2, M2) => some (.rt r, e2, M2)
      | none => none
    | some (false, M1) => some (.nx, env, M1)
    | none => none
def sWh (c : EB) (body : ES) : ES := fun env M => whL env c body WLIM env M
theorem tWhile_of {K : PySem.W.Frag} {c : EB} {body : ES} {Dd : Ends} {σ : L2.St} {H : Hp} (h : tS K (sWh c body) Dd σ H) : tWhile (tT K c) (tS K body) Dd σ H := by
  obtain ⟨W, env, M, fl, env', M', w, re, e, q⟩ := h
  unfold sWh at e
  refine ⟨fun m σ H => ∃ W2 env2 M2, EvoS W W2 ∧ Rw K W2 M2 H ∧ Re K W2 env2 σ ∧ whL env c body m env2 M2 = some (fl, env', M'), ⟨WLIM, W, env, M, EvoS.refl _, w, re, e⟩, ?_⟩
  rintro m σ2 H2 ⟨W2, env2, M2, v2, w2, re2, hl⟩
  cases m with
  | zero => cases hl
  | succ m =>
    unfold whL at hl
    split at hl
    · rename_i M3 hc
      refine ⟨W2, env2, M2, true, M3, w2, re2, hc, fun H3 W3 v3 w3 => ?_⟩
      refine iteT ⟨fun σ H => ∃ W2 env2 M2, EvoS W W2 ∧ Rw K W2 M2 H ∧ Re K W2 env2 σ ∧ whL env c body m env2 M2 = some (fl, env', M'), fun σ' H' hh => ⟨m, Nat.lt_succ_self m, hh⟩, ?_⟩
      have v13 : EvoS W W3 := v2.trans v3.s
      split at hl
      · rename_i e2 M4 hbody
        exact ⟨W3, env2, M3, .nx, e2, M4, w3, re2.evo v3, hbody, fun σ5 H5 W5 v5 w5 re5 => ⟨W5, _, M4, v13.trans v5, w5, re5.keep env, hl⟩⟩
      · rename_i e2 M4 hbody
        exact ⟨W3, env2, M3, .ct, e2, M4, w3, re2.evo v3, hbody, fun σ5 H5 W5 v5 w5 re5 => ⟨W5, _, M4, v13.trans v5, w5, re5.keep env, hl⟩⟩
      · rename_i e2 M4 hbody
        cases hl
        exact ⟨W3, env2, M3, .bk, _, _, w3, re2.evo v3, hbody, fun σ5 H5 W5 v5 w5 re5 => q σ5 H5 W5 (v13.trans v5) w5 (re5.keep env)⟩
      · rename_i r e2 M4 hbody
        cases hl
        exact ⟨W3, env2, M3, .rt _, _, _, w3, re2.evo v3, hbody, fun σ5 H5 W5 v5 w5 v rv => q σ5 H5 W5 (v13.trans v5) w5 v rv⟩
      · cases hl
    · rename_i M3 hc
      cases hl
      refine ⟨W2, _, M2, false, _, w2, re2, hc, fun H3 W3 v3 w3 => ?_⟩
      exact iteF (q _ _ W3 (v2.trans v3.s) w3 (re2.evo v3))
    · cases hl
end R

set_option Elab.async false
set_option linter.all false
set_option maxRecDepth 100000
set_option maxHeartbeats 2000000
/-! R8: lists that change; calls -/
namespace R
open PySem PySem.Spec PyProof.Rows L2

/-! ### an own list at a slot is changed -/
theorem Re.write {K : PySem.W.Frag} {W : Wd} {M : List MO} {H : Hp} {env : Env} {σ : L2.St} {i : Nat} {d d' : D} {a : Addr} {o o' : HO} (w : Rw K W M H) (re : Re K W env σ) (hd : env[i]? = some (.own d)) (hx : σ[i]? = some (some (.ref a))) (ho : W.O a = some o) (r : Ow K W.G W.al o' d') :
    ∃ W', EvoS W W' ∧ Rw K W' M (upd H a o') ∧ Re K W' (env.set i (.own d')) σ := by
  have hlt : i < env.length := (List.getElem?_eq_some_iff.mp hd).1
  obtain ⟨e1, w1⟩ := w.write (o' := o') ho
  refine ⟨_, e1, w1, ⟨by rw [List.length_set]; exact re.len, fun j s hj => ?_, fun j k d1 d2 a' h1 h2 h3 h4 => ?_⟩⟩
  · by_cases z : i = j
    · subst z
      rw [List.getElem?_set_self hlt] at hj
      cases hj
      rw [hx]
      exact .own upd_same r
    · rw [List.getElem?_set_ne z] at hj
      exact re.off (a := a) (O := upd W.O a o') (i := i) (fun c hc => upd_ne hc) (fun j d' h1 h2 => re.inj j i d' d a h1 hd h2 hx) j s (Ne.symm z) hj
  · have n : ∀ {j : Nat} {e : D}, (env.set i (.own d'))[j]? = some (.own e) → ∃ e', env[j]? = some (.own e') := fun {j e} h => by
      by_cases z : i = j
      · subst z
        exact ⟨d, hd⟩
      · rw [List.getElem?_set_ne z] at h
        exact ⟨e, h⟩
    obtain ⟨e1, h1⟩ := n h1
    obtain ⟨e2, h2⟩ := n h2
    exact re.inj j k e1 e2 a' h1 h2 h3 h4
def sApp (i : Nat) (f : EP) : ES := fun env M => match env[i]? with
  | some (.own (.lst ds)) => match f env M with
    | some (d, M1) => if ds.length < LIM then some (.nx, env.set i (.own (.lst (ds ++ [d]))), M1) else none
    | none => none
  | _ => none
def sExt (i : Nat) (f : EP) : ES := fun env M => match env[i]? with
  | some (.own (.lst ds)) => match f env M with
    | some (.lst es, M1) => if ds.length + es.length ≤ LIM then some (.nx, env.set i (.own (.lst (ds ++ es))), M1) else none
    | some (.tup es, M1) => if ds.length + es.length ≤ LIM then some (.nx, env.set i (.own (.lst (ds ++ es))), M1) else none
    | _ => none
  | _ => none
/-- x = l.pop() -/
def sPop (j i : Nat) : ES := fun env M => match env[i]? with
  | some (.own (.lst ds)) => match ds.getLast? with
    | some d => if j < env.length ∧ i ≠ j then some (.nx, (env.set i (.own (.lst ds.dropLast))).set j (.fz d), M) else none
    | none => none
  | _ => none
theorem list_extend_tupW (l : Addr) (items : Array Value) (n : Nat) (b : Addr) (items2 : Array Value) (n2 : Nat) (dd : Option Addr) (sl : Array (Option Value)) (hs0 : ¬(!items.isEmpty && Builtin.List.listTooLong (items.size + items2.size)) = true) (hs1 : items.size ≤ sizeLine) (hs2 : items.size + items2.size ≤ sizeLine + 1) :
    Meets (Builtin.«list.extend» ⟨[.ref l, .ref b], []⟩) (fun _ R s => s.heap.get? l = some { cls := .type "list", dict := none, data := .seq items n, slots := #[] } ∧
      s.heap.get? b = some { cls := .type "tuple", dict := dd, data := .seq items2 n2, slots := sl } ∧ R (.ok (.ret Value.none)) { s with heap := s.heap.update l (Obj.mapSeq fun x => x ++ items2), toks := s.toks }) :=
  .of_wp fun prog w A R s h => by
    obtain ⟨hp, g, d, tk, os⟩ := s
    obtain ⟨hl, hb, h⟩ := h
    have f1 := AutoSeq1.idx_int
    have f2 := AutoSeq1.sub_tuple_tuple
    have f3 := AutoSeq1.sub_list_list
    have f4 := AutoSeq1.sub_tuple_list
    have f5 := AutoSeq1.sub_list_tuple
    have hz' : (items ++ items2).size ≤ sizeLine + 1 := by
      rw [Array.size_append]
      exact hs2
    wp_walk using (wpAny_updateSeq hl rfl (hz := hs1) (_hz' := hz')), AutoSeq1.wpAny_loadPart' hl, AutoSeq1.wpAny_loadPart' hb
    exact ⟨_, rfl, h⟩
def rExtT (K : PySem.W.Frag) : V → List V → Hp → VK → Prop := fun x vs H Q => ∃ l b xs zs, x = .ref l ∧ vs = [.ref b] ∧ H l = some (.lst xs) ∧ SqT K H b zs ∧ xs.length + zs.length ≤ sizeLine ∧ Q .non (upd H l (.lst (xs ++ zs)))
theorem mt_extT {X : Cx} : MtR X "list.extend" (rExtT X.K) := by
  intro pins s σ H x vs v us Q I rx rv h
  obtain ⟨l, b, xs, zs, rfl, rfl, hH, hB, hz, q⟩ := h
  cases rx
  obtain ⟨u, rfl, ru⟩ := rv.one
  cases ru
  obtain ⟨z, its, n, r, hl, e⟩ := I.lstM hH
  obtain ⟨its2, r2, ⟨⟨c2, dd, da, sl⟩, e2, hc2, n2, hd2⟩, hz2⟩ := I.tuple hB
  simp only at hc2 hd2
  subst hc2 hd2
  have hl2 := r2.length
  have hsz : its.toArray.size + its2.toArray.size ≤ sizeLine := by
    rw [List.size_toArray, List.size_toArray]
    omega
  have hlong : ¬ (!its.toArray.isEmpty && Builtin.List.listTooLong (its.toArray.size + its2.toArray.size)) = true := by
    rw [notLongL hsz, Bool.and_false]
    exact Bool.false_ne_true
  refine call_meets PySem.F.slot_list_extend ⟨_, e, rfl⟩ PySem.F.entry_list_extend (PySem.F.args_list_extend_2 _ _)
    (list_extend_tupW l its.toArray n b its2.toArray n2 dd sl hlong (by rw [List.size_toArray]; omega) (by omega)) ⟨e, e2, ?_⟩
  refine ⟨.non, _, I.lset (its' := its ++ its2) hH e (by simp) (r.append r2) ?_, rfl, q⟩
  rw [List.length_append]
  exact hz
section
variable {X : Cx} {x : Str} {e : Expr} {p2 apos cpos pos : Pos}
/-- a method of a list at a slot, one argument -/
theorem lm_call {name : Str} {id : String} {r : V → List V → Hp → VK → Prop} {f : EP} {i : Nat} (pa : PlainAttrs "list") (slot : Slot "list" name id) (hty : typeOf (.builtin id) = pure (.type "method_descriptor")) (hm : MtR X id r)
    (hN : X.N[i]? = some x) (hv : Vis X.env.scope x) (hd : (x == ("__debug__" : Str)) = false) (hcd : (x == ("__classdict__" : Str)) = false) (he : PE X e (tF X.K f)) (hp : plainE e = true) (hline : (apos.endLine == cpos.line) = true) (hat : attributeBase (.Name x p2) name X.env (eval (.Name x p2) X.env) = eval (.Name x p2) X.env) :
    PE X (.Call (.Attribute (.Name x p2) name apos) [e] [] cpos) (tBM X.K "list" r (tVar i) (tCons (tF X.K f) tNil)) := by
  refine pe_bm pa slot hty hm (pe_var hN hv hd hcd) (pa_cons he pa_nil (star_cons hp)) hat ?_ hline (star_cons hp) (by rfl)
  rw [star_cons hp]
  rfl
theorem sAppend {f : EP} {i : Nat} (hN : X.N[i]? = some x) (hv : Vis X.env.scope x) (hd : (x == ("__debug__" : Str)) = false) (hcd : (x == ("__classdict__" : Str)) = false) (he : PE X e (tF X.K f)) (hp : plainE e = true) (hline : (apos.endLine == cpos.line) = true) :
    PS X (.Expr (.Call (.Attribute (.Name x p2) "append" apos) [e] [] cpos) pos) (tS X.K (sApp i f)) := PS.imp (ps_expr (lm_call PySem.F.plainAttrs_list PySem.F.slot_list_append PySem.F.type_list_append mt_append hN hv hd hcd he hp hline rfl)) fun Dd σ H h => by
  obtain ⟨W, env, M, fl, env', M', w, re, e, q⟩ := h
  unfold sApp at e
  split at e
  · rename_i ds hds
    split at e
    · rename_i d M1 hf
      split at e
      · rename_i hl
        cases e
        have y := re.at_ i _ hds
        cases hx : σ[i]? with
        | none =>
          rw [hx] at y
          cases y
        | some x =>
          rw [hx] at y
          cases y with
          | own y r =>
            rename_i a o
            cases r with
            | lst r =>
              rename_i vs
              refine ⟨_, hx, .inl ⟨rfl, vs, .inl (.inl (w.o _ _ y))⟩, W, env, M, d, _, w, re, hf, fun v H2 W2 ev w2 rv => ?_⟩
              have ho : W2.O a = some (.lst vs) := by
                rw [ev.o]
                exact y
              have r2 := r.mono ev.g ev.al
              refine ⟨a, vs, v, rfl, rfl, w2.o _ _ ho, by rw [r2.length]; exact hl, ?_⟩
              obtain ⟨W3, e3, w3, re3⟩ := Re.write w2 (re.evo ev) hds hx ho (.lst (r2.snoc rv))
              exact q _ _ W3 (ev.s.trans e3) w3 re3
      · cases e
    · cases e
  · cases e
theorem sExtend {f : EP} {i : Nat} (hN : X.N[i]? = some x) (hv : Vis X.env.scope x) (hd : (x == ("__debug__" : Str)) = false) (hcd : (x == ("__classdict__" : Str)) = false) (he : PE X e (tF X.K f)) (hp : plainE e = true) (hline : (apos.endLine == cpos.line) = true) :
    PS X (.Expr (.Call (.Attribute (.Name x p2) "extend" apos) [e] [] cpos) pos) (tS X.K (sExt i f)) := PS.imp (ps_expr (lm_call PySem.F.plainAttrs_list PySem.F.slot_list_extend PySem.F.type_list_extend (MtR.or mt_extend mt_extT) hN hv hd hcd he hp hline rfl)) fun Dd σ H h => by
  obtain ⟨W, env, M, fl, env', M', w, re, e, q⟩ := h
  unfold sExt at e
  split at e
  · rename_i ds hds
    have y := re.at_ i _ hds
    cases hx : σ[i]? with
    | none =>
      rw [hx] at y
      cases y
    | some x =>
      rw [hx] at y
      cases y with
      | own y r =>
        rename_i a o
        cases r with
        | lst r =>
          rename_i vs
          have fin : ∀ {es : List D} {M1 : List MO} {W2 : Wd} {H2 : Hp} {us : List V}, Evo W W2 → Rw X.K W2 M1 H2 → RepsW X.K W2 us es → some (Fl.nx, env.set i (.own (.lst (ds ++ es))), M1) = some (fl, env', M') → Dd.nx σ (upd H2 a (.lst (vs ++ us))) := fun {es M1 W2 H2 us} ev w2 ru e => by
            cases e
            have ho : W2.O a = some (.lst vs) := by
              rw [ev.o]
              exact y
            obtain ⟨W3, e3, w3, re3⟩ := Re.write w2 (re.evo ev) hds hx ho (.lst ((r.mono ev.g ev.al).append ru))
            exact q _ _ W3 (ev.s.trans e3) w3 re3
          have hl1 := r.length
          split at e
          · rename_i es M1 hf
            split at e
            · rename_i hl
              refine ⟨_, hx, .inl ⟨rfl, vs, .inl (.inl (w.o _ _ y))⟩, W, env, M, .lst es, _, w, re, hf, fun v H2 W2 ev w2 rv => ?_⟩
              obtain ⟨b, us, rfl, hb, ru⟩ := (RepP.fz rv).lst w2
              have ho : H2 a = some (.lst vs) := w2.o _ _ (by rw [ev.o]; exact y)
              exact .inl ⟨a, b, vs, us, rfl, rfl, ho, hb, by rw [hl1, ru.length]; exact hl, fin ev w2 ru e⟩
            · cases e
          · rename_i es M1 hf
            split at e
            · rename_i hl
              refine ⟨_, hx, .inl ⟨rfl, vs, .inl (.inl (w.o _ _ y))⟩, W, env, M, .tup es, _, w, re, hf, fun v H2 W2 ev w2 rv => ?_⟩
              obtain ⟨b, us, rfl, hb, ru⟩ := (RepP.fz rv).tup w2
              have ho : H2 a = some (.lst vs) := w2.o _ _ (by rw [ev.o]; exact y)
              exact .inr ⟨a, b, vs, us, rfl, rfl, ho, hb, by rw [hl1, ru.length]; exact hl, fin ev w2 ru e⟩
            · cases e
          · cases e
  · cases e
theorem sPopS {y : Str} {p3 : Pos} {i j : Nat} (hnd : X.N.Nodup) (hj : X.N[j]? = some y) (hy : Loc X.env.scope y) (hfn : X.fn y = true ∨ X.env.scope.names.lookup y = some .local) (hN : X.N[i]? = some x) (hv : Vis X.env.scope x) (hd : (x == ("__debug__" : Str)) = false) (hcd : (x == ("__classdict__" : Str)) = false) (hline : (apos.endLine == cpos.line) = true) :
    PS X (.Assign [.Name y p3] (.Call (.Attribute (.Name x p2) "pop" apos) [] [] cpos) pos) (tS X.K (sPop j i)) := PS.imp (ps_set hnd hj hy (pe_bm0 PySem.F.plainAttrs_list PySem.F.slot_list_pop PySem.F.type_list_pop mt_pop (pe_var hN hv hd hcd) rfl hline) rfl hfn) fun Dd σ H h => by
  obtain ⟨W, env, M, fl, env', M', w, re, e, q⟩ := h
  unfold sPop at e
  split at e
  · rename_i ds hds
    split at e
    · rename_i d hdl
      split at e
      · rename_i hc
        cases e
        have y := re.at_ i _ hds
        cases hx : σ[i]? with
        | none =>
          rw [hx] at y
          cases y
        | some x =>
          rw [hx] at y
          cases y with
          | own y r =>
            rename_i a o
            cases r with
            | lst r =>
              rename_i vs
              have hl := r.length
              have hg : ds[ds.length - 1]? = some d := by rw [← List.getLast?_eq_getElem?]; exact hdl
              obtain ⟨v, hv1, rv⟩ := r.get hg
              have rd : RepsW X.K W vs.dropLast ds.dropLast := by
                rw [List.dropLast_eq_take, List.dropLast_eq_take, hl]
                exact r.take _
              refine ⟨_, hx, .inl ⟨rfl, vs, .inl (.inl (w.o _ _ y))⟩, a, vs, v, rfl, rfl, w.o _ _ y, by rw [hl]; exact hv1, ?_⟩
              obtain ⟨W3, e3, w3, re3⟩ := Re.write w re hds hx y (.lst rd)
              exact q _ _ W3 e3 w3 (re3.setFz (by rw [List.length_set]; exact hc.1) (rv.evoS e3))
      · cases e
    · cases e
  · cases e
end

/-! ### defs -/
abbrev Fn := List D → List MO → Option ((D × Bool) × List MO)
def spF (K : PySem.W.Frag) (n : Nat) (F : Fn) : Sp := fun vs H Q _ => vs.length = n ∧ ∃ W M ds r M', Rw K W M H ∧ RepsW K W vs ds ∧ F ds M = some (r, M') ∧ ∀ v H' W', Evo W W' → Rw K W' M' H' → RepR K W' H' r v → Q v H'
/-- a def by its body: N slots -/
def mkFn (N : Nat) (body : ES) : Fn := fun ds M => match body (ds.map .fz ++ List.replicate (N - ds.length) .no) M with
  | some (.rt r, _, M') => some (r, M')
  | some (.nx, _, M') => some ((.non, false), M')
  | _ => none
def orH (B O : Hp) : Hp := fun a => match B a with
  | some o => some o
  | none => O a
def noH : Hp := fun _ => none
theorem Re.start {K : PySem.W.Frag} {W : Wd} {vs : List V} {ds : List D} (r : RepsW K W vs ds) (k : Nat) : Re K W (ds.map .fz ++ List.replicate (k - ds.length) .no) (vs.map some ++ List.replicate (k - vs.length) none) := by
  have hl := r.length
  refine ⟨by simp [hl], fun i s hs => ?_, fun i j d1 d2 a h1 h2 h3 h4 => ?_⟩
  · by_cases hi : i < ds.length
    · rw [List.getElem?_append_left (by simpa using hi), List.getElem?_map, List.getElem?_eq_getElem hi] at hs
      cases hs
      obtain ⟨v, hv, rv⟩ := r.get (List.getElem?_eq_getElem hi)
      rw [List.getElem?_append_left (by simpa [hl] using hi), List.getElem?_map, hv]
      exact .fz rv
    · have hs0 := hs
      rw [List.getElem?_append_right (by simpa using hi)] at hs
      have hi2 := (List.getElem?_eq_some_iff.mp hs0).1
      simp only [List.length_append, List.length_map, List.length_replicate] at hi2
      rw [List.getElem?_replicate, if_pos (by rw [List.length_map]; omega)] at hs
      cases hs
      rw [List.getElem?_append_right (by rw [List.length_map, hl]; omega), List.getElem?_replicate, if_pos (by rw [List.length_map, hl]; omega)]
      exact .no
  · exfalso
    by_cases hi : i < ds.length
    · rw [List.getElem?_append_left (by simpa using hi), List.getElem?_map, List.getElem?_eq_getElem hi] at h1
      cases h1
    · rw [List.getElem?_append_right (by simpa using hi), List.getElem?_replicate] at h1
      split at h1
      · cases h1
      · cases h1
theorem tS_start {K : PySem.W.Frag} {N : List Str} {n : Nat} {body : ES} {vs : List V} {H : Hp} {Q : VK} {E : XK} (h : spF K n (mkFn N.length body) vs H Q E) : tS K body { nx := fun _ H' => Q .non H', rt := Q } (L2.start N vs) H := by
  obtain ⟨_, W, M, ds, r, M', w, rs, e, q⟩ := h
  unfold mkFn at e
  have w0 : Rw K { W with B := orH W.B W.O, O := noH } M H := by
    refine ⟨w.g, fun a o h => ?_, fun a o h => (nomatch h), fun a h => ⟨?_, rfl⟩, fun a _ => rfl, fun a ha => ⟨(w.ag a ha).1, ?_, rfl⟩, w.nd, w.ml, w.mo⟩
    · have h' : orH W.B W.O a = some o := h
      unfold orH at h'
      split at h'
      · rename_i u hu
        cases h'
        exact w.b _ _ hu
      · exact w.o _ _ h'
    · show orH W.B W.O a = none
      unfold orH
      rw [(w.gb a h).1]
      exact (w.gb a h).2
    · show orH W.B W.O a = none
      unfold orH
      rw [(w.ag a ha).2.1]
      exact (w.ag a ha).2.2
  -- back in the caller's world
  have back : ∀ {W' : Wd} {H' : Hp} {M2 : List MO}, EvoS { W with B := orH W.B W.O, O := noH } W' → Rw K W' M2 H' → Evo W { W' with B := W.B, O := W.O } ∧ Rw K { W' with B := W.B, O := W.O } M2 H' ∧ ∀ {t : D × Bool} {v : V}, RepR K W' H' t v → RepR K { W' with B := W.B, O := W.O } H' t v := fun {W' H' M2} ev w' => by
    have hB : W'.B = orH W.B W.O := ev.b
    have subB : ∀ a o, W.B a = some o → W'.B a = some o := fun a o h => by
      rw [hB]
      unfold orH
      rw [h]
    have subO : ∀ a o, W.O a = some o → W'.B a = some o := fun a o h => by
      rw [hB]
      unfold orH
      have hn : W.B a = none := by
        cases q : W.B a with
        | none => rfl
        | some u =>
          have z := w.bo a (by rw [q]; exact fun z => nomatch z)
          rw [z] at h
          cases h
      rw [hn]
      exact h
    have non : ∀ a, W'.B a = none → W.B a = none ∧ W.O a = none := fun a h => by
      constructor
      · cases q : W.B a with
        | none => rfl
        | some o =>
          rw [subB a o q] at h
          cases h
      · cases q : W.O a with
        | none => rfl
        | some o =>
          rw [subO a o q] at h
          cases h
    refine ⟨⟨ev.g, rfl, rfl, ev.al⟩, ⟨w'.g, fun a o h => w'.b _ _ (subB a o h), fun a o h => w'.b _ _ (subO a o h), fun a h => non a (w'.gb a h).1, fun a h => ?_, fun a h => ⟨(w'.ag a h).1, non a (w'.ag a h).2.1⟩, w'.nd, w'.ml, w'.mo⟩, fun {t v} rr => ?_⟩
    · exact w.bo a h
    · cases rr with
      | old h => exact .old h
      | new h r g b oo m => exact .new h r g (non _ b).1 (non _ b).2 m
  split at e
  · rename_i r' env' M2 hb
    cases e
    refine ⟨_, _, M, .rt _, env', _, w0, Re.start (W := { W with B := orH W.B W.O, O := noH }) rs N.length, hb, fun σ' H' W' ev w' => ?_⟩
    obtain ⟨a1, a2, a3⟩ := back ev w'
    exact fun v rv => q v H' _ a1 a2 (a3 rv)
  · rename_i env' M2 hb
    cases e
    refine ⟨_, _, M, .nx, env', _, w0, Re.start (W := { W with B := orH W.B W.O, O := noH }) rs N.length, hb, fun σ' H' W' ev w' => ?_⟩
    obtain ⟨a1, a2, a3⟩ := back ev w'
    exact fun _ => q _ H' _ a1 a2 (.old .non)
  · cases e
/-- the rule of a def -/
theorem ok_def {P : Program} {w : World} {K : PySem.W.Frag} {mg : Str → Option Value} {base : Heap} {x qual : Str} {st : Stmt} {f : Addr} {fd : FuncData} {N ps : List Str} {k : Nat} {body : ES} (F : L2.Fun K x qual st f fd) (S : FnScope N ps (defScope st))
    (hb : ∀ (cdv : Value) (A : Around) (outer : List PySem.Env) (s : Shared) (H : Hp) (E : XK), Room k (A.deeper (envOfC qual (defScope st) s.heap.objs.size f cdv)) → PSs (cxOf CX0 P w K mg base N qual (defScope st) f cdv A outer s H E).nox (defBody st) (tS K body)) :
    FnOk P w K mg base CX0 (k + 1) f fd ps (spF K ps.length (mkFn N.length body)) := by
  refine F.ok S (fun vs H Q E h => h.1) (fun cdv A outer s H vs Q E hr h => ⟨_, hb cdv A outer s H E hr, ?_⟩)
  exact tS_start h
/-- a call -/
def eFn (F : Fn) (fs : EL) : EE := fun env M => match fs env M with
  | some (ds, M1) => F ds M1
  | none => none
theorem pFn {X : Cx} {k : Nat} {f : Addr} {fd : FuncData} {ps : List Str} {F : Fn} {fs : EL} {x : Str} {p pos : Pos} {e : Expr} {es : List Expr} (G : FnOk X.prog X.w X.K X.mg X.base CX0 k f fd ps (spF X.K ps.length F)) (hr : Room k X.A) (hg : Gl X x) (hm : X.mg x = some (.ref f))
    (hk : PySem.W.keepIn X.K (.ref f) = true) (hb : Binds X.K fd ps []) (ha : PA X (e :: es) (tL X.K fs)) (hlen : ps.length = (e :: es).length) (hfs : ∀ env M ds M', fs env M = some (ds, M') → ds.length = (e :: es).length) (hdb : (x == ("__debug__" : Str)) = false) (hp : (e :: es).all plainE = true) :
    PE X (.Call (.Name x p) (e :: es) [] pos) (tE X.K (eFn F fs)) := by
  rw [List.all_cons, Bool.and_eq_true] at hp
  refine PE.imp (pe_call G hr hg hm hk hb .nil pass0 ha hdb (star_cons hp.1) (back_any hp.2)) fun σ H Q h => ?_
  obtain ⟨W, env, M, r, M', w, re, e, q⟩ := h
  unfold eFn at e
  split at e
  · rename_i ds M1 h1
    refine ⟨W, env, M, ds, M1, w, re, h1, fun vs H1 W1 e1 w1 r1 => ?_⟩
    refine ⟨?_, W1, M1, ds, r, M', w1, ?_, e, fun v H' W' e2 w2 r2 => q v H' W' (e1.trans e2) w2 r2⟩
    · rw [List.append_nil, r1.length, hfs _ _ _ _ h1, hlen]
    · rw [List.append_nil]
      exact r1
  · cases e
end R

set_option Elab.async false
set_option linter.all false
set_option maxRecDepth 100000
set_option maxHeartbeats 2000000
/-! R10: expressions compiled -/
namespace R
open PySem PySem.Spec PyProof.Rows L2

theorem map_some {α β : Type} {o : Option α} {f : α → β} {b : β} (h : o.map f = some b) : ∃ a, o = some a ∧ f a = b := by
  cases o with
  | none => cases h
  | some a =>
    cases h
    exact ⟨a, rfl, rfl⟩
structure Entry where
  F : Fn
  ar : Nat
  lv : Bool := false
structure Cn where
  N : List Str
  fns : List (Str × Entry)
  cst : List (Str × D)
  mu : List Nat
def findIx (x : Str) : List Str → Option Nat
  | [] => none
  | y :: r => if x = y then some 0 else (findIx x r).map (· + 1)
theorem findIx_some {x : Str} : ∀ {l : List Str} {i : Nat}, findIx x l = some i → l[i]? = some x
  | [], _, h => by cases h
  | y :: r, i, h => by
    unfold findIx at h
    by_cases e : x = y
    · rw [if_pos e] at h
      cases h
      rw [e]
      rfl
    · rw [if_neg e] at h
      cases q : findIx x r with
      | none =>
        rw [q] at h
        cases h
      | some j =>
        rw [q] at h
        cases h
        show (y :: r)[j + 1]? = some x
        rw [List.getElem?_cons_succ]
        exact findIx_some q
def visB (sc : Scope) (x : Str) : Bool := match sc.names.lookup x with
  | some .local => true
  | some .cell => true
  | some .free => true
  | _ => false
def glB (sc : Scope) (x : Str) : Bool := match sc.names.lookup x with
  | some .globalImplicit => true
  | _ => false
def locB (sc : Scope) (x : Str) : Bool := match sc.names.lookup x with
  | some .local => true
  | _ => false
def celB (sc : Scope) (x : Str) : Bool := match sc.names.lookup x with
  | some .cell => true
  | _ => false
def okName (x : Str) : Bool := !(x == ("__debug__" : Str)) && !(x == ("__classdict__" : Str)) && !(x == ("__name__" : Str))
def slotOf (c : Cn) (sc : Scope) (x : Str) : Option Nat := if visB sc x && okName x then findIx x c.N else none
def cstOf (c : Cn) (sc : Scope) (x : Str) : Option D := if glB sc x && okName x then c.cst.lookup x else none
/-- the built-in names that are used, none of which the module binds -/
def bNames : List Str := ["len", "tuple", "list", "all", "any", "sum", "int", "abs", "max", "min", "isinstance", "sorted", "set", "dict", "range", "zip", "enumerate", "bool", "str"]
/-- what a def's context gives -/
structure Ctx (X : Cx) (c : Cn) (sc : Scope) (fnS : Str → Bool) : Prop where
  calm : X.calm = true
  nd : X.N.Nodup
  n : X.N = c.N
  scope : X.env.scope = sc
  kind : sc.kind = .function
  fn : ∀ x, fnS x = true → X.fn x = true
  xe : X.xe = fun _ _ => False
  hu : X.A.units + 70 < cLine
  blt : ∀ x ∈ bNames, X.mg x = none
  cst : ∀ x d, c.cst.lookup x = some d → ∃ v u, X.mg x = some u ∧ RelV v u ∧ ∀ W : Wd, RepW X.K W v d
  fns : ∀ x e, c.fns.lookup x = some e → ∃ (k : Nat) (f : Addr) (fd : FuncData) (ps : List Str), FnOk X.prog X.w X.K X.mg X.base CX0 k f fd ps (spF X.K ps.length e.F) ∧ Room k X.A ∧ X.mg x = some (.ref f) ∧ PySem.W.keepIn X.K (.ref f) = true ∧ Binds X.K fd ps [] ∧ ps.length = e.ar
theorem okName_of {x : Str} (h : okName x = true) : (x == ("__debug__" : Str)) = false ∧ (x == ("__classdict__" : Str)) = false ∧ x ≠ ("__name__" : Str) := by
  unfold okName at h
  simp only [Bool.and_eq_true, Bool.not_eq_true'] at h
  exact ⟨h.1.1, h.1.2, fun e => by rw [e] at h; exact absurd h.2 (by decide)⟩
theorem visB_of {sc : Scope} {x : Str} (h : visB sc x = true) : Vis sc x := by
  unfold visB at h
  unfold Vis
  split at h
  · exact .inl (by assumption)
  · exact .inr (.inl (by assumption))
  · exact .inr (.inr (by assumption))
  · cases h
theorem glB_of {X : Cx} {c : Cn} {sc : Scope} {fnS : Str → Bool} {x : Str} (C : Ctx X c sc fnS) (h : glB sc x = true) : Gl X x := by
  unfold glB at h
  split at h
  · show X.env.scope.names.lookup x = _
    rw [C.scope]
    assumption
  · cases h
theorem slotOf_some {X : Cx} {c : Cn} {sc : Scope} {fnS : Str → Bool} {x : Str} {i : Nat} (C : Ctx X c sc fnS) (h : slotOf c sc x = some i) : X.N[i]? = some x ∧ Vis X.env.scope x ∧ (x == ("__debug__" : Str)) = false ∧ (x == ("__classdict__" : Str)) = false := by
  unfold slotOf at h
  split at h
  · rename_i hc
    rw [Bool.and_eq_true] at hc
    obtain ⟨a, b, _⟩ := okName_of hc.2
    exact ⟨by rw [C.n]; exact findIx_some h, by rw [C.scope]; exact visB_of hc.1, a, b⟩
  · cases h
theorem cstOf_some {X : Cx} {c : Cn} {sc : Scope} {fnS : Str → Bool} {x : Str} {d : D} {p : Pos} (C : Ctx X c sc fnS) (h : cstOf c sc x = some d) : PE X (.Name x p) (tF X.K (eCst d)) := by
  unfold cstOf at h
  split at h
  · rename_i hc
    rw [Bool.and_eq_true] at hc
    obtain ⟨a, b, _⟩ := okName_of hc.2
    obtain ⟨v, u, h1, h2, h3⟩ := C.cst x d h
    exact pConst (pe_glob (glB_of C hc.1) h1 h2 a) h3
  · cases h

/-! ### positions -/
abbrev RE := EE × List Nat
abbrev RP := EP × List Nat
abbrev RB := EB × List Nat
abbrev RL := EL × List Nat
/-- a value that is handed on -/
def cF (c : Cn) (sc : Scope) (E : Expr → Option RE) (e : Expr) : Option RP := match e with
  | .Name x _ => match slotOf c sc x with
    | some i => some (eVar i, if c.mu.contains i then [i] else [])
    | none => (cstOf c sc x).map fun d => (eCst d, [])
  | e => (E e).map fun r => (eFz r.1, r.2)
/-- a value that is looked at -/
def cP (c : Cn) (sc : Scope) (E : Expr → Option RE) (e : Expr) : Option RP := match e with
  | .Name x _ => match slotOf c sc x with
    | some i => some (if c.mu.contains i then ePk i else eVar i, [])
    | none => (cstOf c sc x).map fun d => (eCst d, [])
  | e => (E e).map fun r => (eFz r.1, r.2)
def cLF (c : Cn) (sc : Scope) (E : Expr → Option RE) : List Expr → Option RL
  | [] => some (eNil, [])
  | e :: es => match cF c sc E e, cLF c sc E es with
    | some (f, a), some (g, b) => some (eCons f g, a ++ b)
    | _, _ => none
def cLP (c : Cn) (sc : Scope) (E : Expr → Option RE) : List Expr → Option RL
  | [] => some (eNil, [])
  | e :: es => match cP c sc E e, cLP c sc E es with
    | some (f, a), some (g, b) => some (eCons f g, a ++ b)
    | _, _ => none
/-- what the compiled expressions are -/
def SE (X : Cx) (E : Expr → Option RE) : Prop := ∀ e r, E e = some r → PE X e (tE X.K r.1) ∧ plainE e = true
def ST (X : Cx) (T : Expr → Option RB) : Prop := ∀ e r, T e = some r → PT X e (tT X.K r.1)
section
variable {X : Cx} {c : Cn} {sc : Scope} {fnS : Str → Bool} {E : Expr → Option RE}
theorem cF_ok (C : Ctx X c sc fnS) (hE : SE X E) {e : Expr} {r : RP} (h : cF c sc E e = some r) : PE X e (tF X.K r.1) ∧ plainE e = true := by
  unfold cF at h
  split at h
  · rename_i x p
    split at h
    · rename_i i hi
      cases h
      obtain ⟨a, b, c1, d⟩ := slotOf_some C hi
      exact ⟨pVar a b c1 d, rfl⟩
    · cases hd : cstOf c sc x with
      | none =>
        rw [hd] at h
        cases h
      | some d =>
        rw [hd] at h
        cases h
        exact ⟨cstOf_some C hd, rfl⟩
  · cases he : E e with
    | none =>
      rw [he] at h
      cases h
    | some q =>
      rw [he] at h
      cases h
      obtain ⟨a, b⟩ := hE _ _ he
      exact ⟨pFz a, b⟩
theorem cP_ok (C : Ctx X c sc fnS) (hE : SE X E) {e : Expr} {r : RP} (h : cP c sc E e = some r) : PE X e (tP X.K r.1) ∧ plainE e = true := by
  unfold cP at h
  split at h
  · rename_i x p
    split at h
    · rename_i i hi
      cases h
      obtain ⟨a, b, c1, d⟩ := slotOf_some C hi
      refine ⟨?_, rfl⟩
      show PE X _ (tP X.K (if c.mu.contains i then ePk i else eVar i))
      split
      · exact pPeek a b c1 d
      · exact pPk (pVar a b c1 d)
    · cases hd : cstOf c sc x with
      | none =>
        rw [hd] at h
        cases h
      | some d =>
        rw [hd] at h
        cases h
        exact ⟨pPk (cstOf_some C hd), rfl⟩
  · cases he : E e with
    | none =>
      rw [he] at h
      cases h
    | some q =>
      rw [he] at h
      cases h
      obtain ⟨a, b⟩ := hE _ _ he
      exact ⟨pPk (pFz a), b⟩
theorem eCons_len {f : EP} {g : EL} {n : Nat} (h : ∀ env M ds M', g env M = some (ds, M') → ds.length = n) : ∀ env M ds M', eCons f g env M = some (ds, M') → ds.length = n + 1 := fun env M ds M' e => by
  obtain ⟨x, M1, xs, _, b, rfl⟩ := eCons_some e
  rw [List.length_cons, h _ _ _ _ b]
theorem cLF_ok (C : Ctx X c sc fnS) (hE : SE X E) : ∀ {es : List Expr} {r : RL}, cLF c sc E es = some r → PA X es (tL X.K r.1) ∧ es.all plainE = true ∧ ∀ env M ds M', r.1 env M = some (ds, M') → ds.length = es.length
  | [], r, h => by
    cases h
    exact ⟨pNil, rfl, fun env M ds M' e => by cases e; rfl⟩
  | e :: es, r, h => by
    unfold cLF at h
    split at h
    · rename_i f a g b h1 h2
      cases h
      obtain ⟨p1, p2⟩ := cF_ok C hE h1
      obtain ⟨q1, q2, q3⟩ := cLF_ok C hE h2
      exact ⟨pCons p1 q1 (star_cons p2), by rw [List.all_cons, p2, q2]; rfl, eCons_len q3⟩
    · cases h
theorem cLP_ok (C : Ctx X c sc fnS) (hE : SE X E) : ∀ {es : List Expr} {r : RL}, cLP c sc E es = some r → PA X es (tLP X.K r.1) ∧ es.all plainE = true
  | [], r, h => by
    cases h
    exact ⟨pNilP, rfl⟩
  | e :: es, r, h => by
    unfold cLP at h
    split at h
    · rename_i f a g b h1 h2
      cases h
      obtain ⟨p1, p2⟩ := cP_ok C hE h1
      obtain ⟨q1, q2⟩ := cLP_ok C hE h2
      exact ⟨pConsP p1 q1 (star_cons p2), by rw [List.all_cons, p2, q2]; rfl⟩
    · cases h
end

/-! ### operators -/
def bOp : Operator → Option Op2
  | .Add => some dAdd
  | .Sub => some dSub
  | .Mult => some dMul
  | .FloorDiv => some dDiv
  | .Mod => some dMod
  | .Pow => some dPow
  | _ => none
theorem bOp_ok {X : Cx} {op : Operator} {f : Op2} (h : bOp op = some f) : ∃ r, OpR X (binaryOp op) r ∧ Ok2 X.K r f := by
  unfold bOp at h
  split at h
  · cases h
    exact ⟨_, op_addX, ok_add⟩
  · cases h
    exact ⟨_, op_sub, ok_sub⟩
  · cases h
    exact ⟨_, op_mulX, ok_mul⟩
  · cases h
    exact ⟨_, op_fdiv, ok_div⟩
  · cases h
    exact ⟨_, op_mod, ok_mod⟩
  · cases h
    exact ⟨_, op_pow, ok_pow⟩
  · cases h
/-- is, of truths and of None -/
def dIsB : Op2 := fun d e => match e with
  | .bl b => match d with
    | .bl a => some (.bl (decide (a = b)), false)
    | _ => none
  | e => dIs d e
def dIsNotB : Op2 := fun d e => match e with
  | .bl b => match d with
    | .bl a => some (.bl (!decide (a = b)), false)
    | _ => none
  | e => dIsNot d e
theorem RepP.blV {K : PySem.W.Frag} {W : Wd} {v : V} {b : Bool} (h : RepP K W v (.bl b)) : v = .bl b := by
  cases h with
  | fz h => cases h; rfl
  | own h r => cases r
theorem ok_isB {K : PySem.W.Frag} : Ok2 K (fun x y H Q => (y = .non ∧ Q (.bl (decide (x = .non))) H) ∨ ∃ a b, x = .bl a ∧ y = .bl b ∧ Q (.bl (decide (a = b))) H) dIsB := by
  intro W M H x y d e res Q w rx ry h q
  unfold dIsB at h
  split at h
  · split at h
    · cases h
      exact .inr ⟨_, _, rx.blV, ry.blV, done_bl w q⟩
    · cases h
  · exact .inl (ok_is W M H x y d _ res Q w rx ry h q)
theorem ok_isNotB {K : PySem.W.Frag} : Ok2 K (fun x y H Q => (y = .non ∧ Q (.bl (!decide (x = .non))) H) ∨ ∃ a b, x = .bl a ∧ y = .bl b ∧ Q (.bl (!decide (a = b))) H) dIsNotB := by
  intro W M H x y d e res Q w rx ry h q
  unfold dIsNotB at h
  split at h
  · split at h
    · cases h
      exact .inr ⟨_, _, rx.blV, ry.blV, done_bl w q⟩
    · cases h
  · exact .inl (ok_isNot W M H x y d _ res Q w rx ry h q)
def cOp : CmpOp → Op2
  | .Eq => dEq
  | .NotEq => dNe
  | .Lt => dLt
  | .LtE => dLe
  | .Gt => dGt
  | .GtE => dGe
  | .Is => dIsB
  | .IsNot => dIsNotB
  | .In => dIn false
  | .NotIn => dIn true
theorem cOp_ok {X : Cx} (hu : X.A.units + 70 < cLine) (op : CmpOp) : ∃ r, OpR X (compareOp op) r ∧ Ok2 X.K r (cOp op) := by
  cases op with
  | Eq => exact ⟨_, op_eqX (by omega), ok_eq⟩
  | NotEq => exact ⟨_, op_neX (by omega), ok_ne⟩
  | Lt => exact ⟨_, op_ltX hu, ok_ord⟩
  | LtE => exact ⟨_, op_leX hu, ok_ord⟩
  | Gt => exact ⟨_, op_gtX hu, ok_ord⟩
  | GtE => exact ⟨_, op_geX hu, ok_ord⟩
  | Is => exact ⟨_, OpR.or op_isN op_is_bl, ok_isB⟩
  | IsNot => exact ⟨_, OpR.or op_notN op_isnot_bl, ok_isNotB⟩
  | In => exact ⟨_, OpR.or (OpR.or (op_inX (by omega)) op_inS) (op_inDc hu), ok_in⟩
  | NotIn => exact ⟨_, OpR.or (OpR.or (op_notInX (by omega)) op_notInS) (op_notInDc hu), ok_in⟩
/-- a op b op' c -/
def eChain (f g : Op2) (fa fb fc : EP) : EE := fun env M => match fa env M with
  | some (x, M1) => match fb env M1 with
    | some (y, M2) => match f x y with
      | some (.bl true, false) => match fc env M2 with
        | some (z, M3) => (g y z).map fun r => (r, M3)
        | none => none
      | some (.bl false, false) => some ((.bl false, false), M2)
      | _ => none
    | none => none
  | none => none
section
variable {K : PySem.W.Frag}
theorem tE_chain {r r' : R2} {f g : Op2} {fa fb fc : EP} {σ : L2.St} {H : Hp} {Q : VK} (ok : Ok2 K r f) (ok' : Ok2 K r' g) (h : tE K (eChain f g fa fb fc) σ H Q) : tChain r r' (tP K fa) (tP K fb) (tP K fc) σ H Q := by
  obtain ⟨W, env, M, rr, M', w, re, e, q⟩ := h
  unfold eChain at e
  split at e
  · rename_i x M1 h1
    split at e
    · rename_i y M2 h2
      refine ⟨W, env, M, x, M1, w, re, h1, fun v1 H1 W1 e1 w1 r1 => ⟨W1, env, M1, y, M2, w1, re.evo e1, h2, fun v2 H2 W2 e2 w2 r2 => ?_⟩⟩
      split at e
      · rename_i hf
        split at e
        · rename_i z M3 h3
          cases hg : g y z with
          | none =>
            rw [hg] at e
            cases e
          | some t =>
            rw [hg] at e
            cases e
            refine ok W2 M2 H2 v1 v2 x y _ _ w2 (r1.evo e2) r2 hf fun v3 H3 W3 e3 w3 r3 => ?_
            cases r3 with
            | old r3 =>
              cases r3
              refine ⟨true, rfl, iteT ⟨W3, env, M2, z, _, w3, ((re.evo e1).evo e2).evo e3, h3, fun v4 H4 W4 e4 w4 r4 => ?_⟩⟩
              exact ok' W4 _ H4 v2 v4 y z _ _ w4 ((r2.evo e3).evo e4) r4 hg fun v5 H5 W5 e5 w5 r5 => q _ _ _ ((((e1.trans e2).trans e3).trans e4).trans e5) w5 r5
        · cases e
      · rename_i hf
        cases e
        refine ok W2 _ H2 v1 v2 x y _ _ w2 (r1.evo e2) r2 hf fun v3 H3 W3 e3 w3 r3 => ?_
        cases r3 with
        | old r3 =>
          cases r3
          exact ⟨false, rfl, iteF (q _ _ _ ((e1.trans e2).trans e3) w3 (.old (.bl _)))⟩
      · cases e
    · cases e
  · cases e
/-- a compiled value that is True or False, as a test of the same parts -/
theorem tT_of_tE {f : EE} {σ : L2.St} {H : Hp} {Q : Bool → Hp → Prop} (h : tT K (tbB (eFz f)) σ H Q) : tE K f σ H fun x H' => ∃ k, x = .bl k ∧ Q k H' := by
  have h2 := tT_bool h
  exact tF_of_tE h2
end
section
variable {X : Cx} {e a b d : Expr} {pos : Pos}
theorem ptCmp {op : CmpOp} {r : R2} {f : Op2} {fa fb : EP} (ho : OpR X (compareOp op) r) (ok : Ok2 X.K r f) (ha : PE X a (tP X.K fa)) (hb : PE X b (tP X.K fb)) (hm : behindInMarks op b = false) : PT X (.Compare a [op] [b] pos) (tT X.K (tbB (eFz (eOp f fa fb)))) :=
  PT.imp (pt_cmpR ho ha hb hm) fun _ _ _ h => tE_op ok (tT_of_tE h)
theorem pChain {op op' : CmpOp} {r r' : R2} {f g : Op2} {fa fb fc : EP} (ho : OpR X (compareOp op) r) (ho' : OpR X (compareOp op') r') (ok : Ok2 X.K r f) (ok' : Ok2 X.K r' g) (ha : PE X a (tP X.K fa)) (hb : PE X b (tP X.K fb)) (hd : PE X d (tP X.K fc)) (hm : lastMarks [op, op'] [b, d] = false) :
    PE X (.Compare a [op, op'] [b, d] pos) (tE X.K (eChain f g fa fb fc)) := PE.imp (pe_chain ho ho' ha hb hd hm) fun _ _ _ h => tE_chain ok ok' h
theorem ptChain {op op' : CmpOp} {r r' : R2} {f g : Op2} {fa fb fc : EP} (ho : OpR X (compareOp op) r) (ho' : OpR X (compareOp op') r') (ok : Ok2 X.K r f) (ok' : Ok2 X.K r' g) (ha : PE X a (tP X.K fa)) (hb : PE X b (tP X.K fb)) (hd : PE X d (tP X.K fc)) (hm : lastMarks [op, op'] [b, d] = false) :
    PT X (.Compare a [op, op'] [b, d] pos) (tT X.K (tbB (eFz (eChain f g fa fb fc)))) := PT.imp (pt_chain ho ho' ha hb hd hm) fun _ _ _ h => tE_chain ok ok' (tT_of_tE h)
/-- not, of any value -/
theorem pNotT {f : EP} (ha : PE X a (tP X.K f)) : PE X (.UnaryOp .Not a pos) (tF X.K (bVal (eNot (tbV f)))) := PE.imp (pe_notT ha) fun σ H Q h => by
  obtain ⟨W, env, M, v, M', w, re, e, q⟩ := h
  unfold bVal at e
  cases hc : eNot (tbV f) env M with
  | none =>
    rw [hc] at e
    cases e
  | some p =>
    obtain ⟨k, M1⟩ := p
    rw [hc] at e
    cases e
    have z := eNot_some hc
    unfold tbV at z
    split at z
    · rename_i d M2 hf
      cases hd : d.truth with
      | none =>
        rw [hd] at z
        cases z
      | some t =>
        rw [hd] at z
        cases z
        refine ⟨W, env, M, d, _, w, re, hf, fun v H' W' e1 w1 r1 => ⟨_, r1.truth w1 hd, ?_⟩⟩
        rw [Bool.not_not]
        exact q _ _ _ e1 w1 (.bl _)
    · cases z
end

def isiTy (y : Str) : Option String := if y = "int" then some "int" else if y = "str" then some "str" else if y = "bool" then some "bool" else if y = "tuple" then some "tuple" else none
theorem isiTy_ok {X : Cx} {c : Cn} {sc : Scope} {fnS : Str → Bool} {y : Str} {T : String} (C : Ctx X c sc fnS) (h : isiTy y = some T) : X.mg y = none ∧ bootBuiltins y = some (.type T) ∧ y ≠ "__name__" ∧ (y == ("__debug__" : Str)) = false := by
  unfold isiTy at h
  split at h
  · rename_i z
    subst z
    cases h
    exact ⟨C.blt _ (by decide), by decide +kernel, by decide, by decide⟩
  split at h
  · rename_i z
    subst z
    cases h
    exact ⟨C.blt _ (by decide), by decide +kernel, by decide, by decide⟩
  split at h
  · rename_i z
    subst z
    cases h
    exact ⟨C.blt _ (by decide), by decide +kernel, by decide, by decide⟩
  split at h
  · rename_i z
    subst z
    cases h
    exact ⟨C.blt _ (by decide), by decide +kernel, by decide, by decide⟩
  · cases h
end R

set_option Elab.async false
set_option linter.all false
set_option maxRecDepth 100000
set_option maxHeartbeats 2000000
/-! R13: sorted -/
namespace R
open PySem PySem.Spec PySem.Calls PyProof.Rows L2
section
variable {prog : Program} {w : World} {A : Around} {E : Value → Shared → Prop} {s : Shared}
theorem collect_tup {l : Addr} {vs : List Value} {Q : List Value → Shared → Prop} (hl : s.heap.IsTuple l vs.toArray) (hsz : vs.length ≤ sizeLine)
    (h : Q vs { s with heap := (s.heap.push (seqObj "list" #[] 0)).update s.heap.objs.size (Obj.mapSeq (· ++ vs.toArray)) }) :
    wpAny (model prog w) A (collect (.ref l)) Q E s := by
  obtain ⟨o, ho, hc, n, hd⟩ := id hl
  unfold collect
  refine wpAny_bind (wpAny_runValue (codeAny_builtin entry_proto_collect' ?_))
  show wpAny _ _ (do again (.builtin "list.__iadd__" ⟨[← newList [], .ref l], []⟩)) _ _ s
  refine wpAny_bind (wpAny_newList (wpAny_pure ⟨Code.quiet_builtin _ (by decide +kernel), codeAny_builtin entry_list_iadd' ?_⟩))
  show wpAny _ _ (Builtin.List.listExtendWith (.ref s.heap.objs.size) (.ref l) (.ref s.heap.objs.size)) _ _ { s with heap := s.heap.push (seqObj "list" #[] 0) }
  unfold Builtin.List.listExtendWith
  have ho' : (s.heap.push (seqObj "list" #[] 0)).get? l = some o := Heap.get?_push_of_some _ ho
  refine wpAny_bind (wpAny_typeOf (T := "tuple") ⟨o, ho', hc⟩ ?_)
  have ht : (Value.type "tuple" == Value.type "tuple") = true := by rfl
  rw [if_pos (by rw [ht]; simp)]
  refine wpAny_bind (listItems_at ho' hd ?_)
  refine wpAny_bind (listItems_at (xs := #[]) (n := 0) (Heap.get?_push_size _ rfl) rfl ?_)
  rw [if_neg (by simp)]
  refine wpAny_bind (listUpdate_at (xs := #[]) (n := 0) (Heap.get?_push_size _ rfl) rfl ?_ (Nat.zero_le _) (by show (#[] ++ vs.toArray).size ≤ sizeLine + 1; simp only [Array.size_append, List.size_toArray, List.length_nil]; omega))
  refine wpAny_pure ?_
  show wpAny (model prog w) A (do
      let o ← load s.heap.objs.size
      match o.data with
      | .seq xs _ => pure xs.toList
      | _ => unsupported "internal:collect") Q E { s with heap := (s.heap.push (seqObj "list" #[] 0)).update s.heap.objs.size (Obj.mapSeq (· ++ vs.toArray)) }
  refine wpAny_bind (wpAny_load (get?_update_seq (Heap.get?_push_size _ rfl) _) ?_)
  show wpAny _ _ (pure ((#[] : Array Value) ++ vs.toArray).toList) Q E _
  rw [show ((#[] : Array Value) ++ vs.toArray).toList = vs by simp]
  exact wpAny_pure h
/-- sorted(xs) is list.sort() of a new list of the items -/
theorem sorted_by {l : Addr} {vs : List Value} {Q : Value → Shared → Prop} (hl : s.heap.IsList l vs.toArray ∨ s.heap.IsTuple l vs.toArray) (hL : vs.length ≤ sizeLine)
    (body : ∀ E' : Value → Shared → Prop, wpAny (model prog w) A.in1.in1 (Builtin.«list.sort» ⟨[.ref (s.heap.objs.size + 1)], []⟩) (fun f s' => f = .done (.ret .none) ∧ Q (.ref (s.heap.objs.size + 1)) s') E' { s with heap := PySem.W.copyHeap s.heap vs }) :
    wpAny (model prog w) A (call (.builtin "sorted") [.ref l]) Q E s := by
  refine call_function_entry_kw kind_sorted plain_sorted entry_sorted (args_sorted1 _) ?_
  unfold Builtin.«sorted»
  refine wpAny_bind (m := checkCount "sorted" 1 1 _) (wpAny_pure ?_)
  have cl : ∀ {Q' : List Value → Shared → Prop} {A' : Around} {E' : Value → Shared → Prop}, Q' vs { s with heap := (s.heap.push (seqObj "list" #[] 0)).update s.heap.objs.size (Obj.mapSeq (· ++ vs.toArray)) } → wpAny (model prog w) A' (collect (.ref l)) Q' E' s := fun {Q' A' E'} h => by
    rcases hl with hl | hl
    · exact collect_list hl h hL
    · exact collect_tup hl hL h
  refine wpAny_bind (cl ?_)
  refine wpAny_bind (wpAny_newList ?_ hL)
  have hsz : ((s.heap.push (seqObj "list" #[] 0)).update s.heap.objs.size (Obj.mapSeq (· ++ vs.toArray))).objs.size = s.heap.objs.size + 1 := by
    rw [Heap.size_update, size_push']
  show wpAny _ _ _ _ _ { s with heap := PySem.W.copyHeap s.heap vs }
  rw [hsz]
  refine wpAny_bind (wpAny_holding (wpAny_call_entry_kw slot_list_sort ⟨_, PySem.W.copyHeap_at s.heap vs, rfl⟩ entry_list_sort ?body (args_list_sort _)))
  case body =>
    show wpAny (model prog w) A.in1.in1 (Builtin.«list.sort» ⟨[.ref (s.heap.objs.size + 1)], []⟩) _ _ _
    refine wpAny_mono (body _) (fun f s' hf => ?_) fun _ _ e => e
    obtain ⟨rfl, hq⟩ := hf
    exact ⟨_, rfl, wpAny_pure ⟨_, rfl, hq⟩⟩
end

abbrev D.le (d e : D) : Bool := PySem.W.dataLe false D.py d e
def rSortedD (K : PySem.W.Frag) : List V → Hp → VK → Prop := fun xs H Q => ∃ (a : Addr) (bs : List (V × D)), xs = [.ref a] ∧ (SqL K H a (bs.map (·.1)) ∨ SqT K H a (bs.map (·.1))) ∧
  (bs.length < 2 ∨ (PySem.W.AllAlike (bs.map (·.2.py)) ∧ PySem.W.Sortable (bs.map (·.2.py)) ∧ ∀ b ∈ bs, Dp K H b.1 b.2.py ∧ b.2.py.depth ≤ 64)) ∧
  ∀ p, H p = none → Q (.ref p) (upd H p (.lst ((bs.mergeSort (PySem.W.dataLe false (·.2.py))).map (·.1))))
theorem each_of_vals {h : Heap} {P : Value → V × D → Prop} : ∀ {bs : List (V × D)} {us : List Value}, Vals (bs.map (·.1)) us → (∀ b ∈ bs, ∀ u, RelV b.1 u → P u b) → PySem.W.EachIs P us bs
  | [], _, .nil, _ => .nil
  | b :: bs, _, .cons r rs, f => .cons (f b (List.mem_cons_self ..) _ r) (each_of_vals (h := h) rs fun c hc => f c (List.mem_cons_of_mem _ hc))
theorem vals_of_each : ∀ {bs : List (V × D)} {us : List Value}, PySem.W.EachIs (fun u b => RelV b.1 u) us bs → Vals (bs.map (·.1)) us
  | [], _, .nil => .nil
  | _ :: _, _, .cons r rs => .cons r (vals_of_each rs)
theorem sort_short {α : Type} {le : α → α → Bool} {bs : List α} (h : bs.length < 2) : bs.mergeSort le = bs := by
  match bs, h with
  | [], _ => simp
  | [b], _ => simp
  | _ :: _ :: _, h => exact absurd h (by simp)
theorem srt_short {α : Type} {bs os : List α} (h : bs.length < 2) (p : os.Perm bs) : os = bs := by
  match bs, h with
  | [], _ => exact p.eq_nil
  | [b], _ => exact List.perm_singleton.mp p
  | _ :: _ :: _, h => exact absurd h (by simp)
section
variable {X : Cx}
theorem cr_sortedD (hu : X.A.units + 70 < cLine) : CallR X (.builtin "sorted") (rSortedD X.K) := by
  intro pins s σ H vs us Q I r h
  obtain ⟨a, bs, rfl, hs, hk, q⟩ := h
  rw [Vals.ref1 r]
  obtain ⟨its, rv, hl, hz⟩ : ∃ its : List Value, Vals (bs.map (·.1)) its ∧ (s.heap.IsList a its.toArray ∨ s.heap.IsTuple a its.toArray) ∧ its.length ≤ sizeLine := by
    rcases hs with hs | hs
    · obtain ⟨its, rv, hl, hz⟩ := I.list hs
      exact ⟨its, rv, .inl hl.isList, by rw [← rv.length]; exact hz⟩
    · obtain ⟨its, rv, hl, hz⟩ := I.tuple hs
      exact ⟨its, rv, .inr (by obtain ⟨o, h1, h2, n, h3⟩ := hl; exact ⟨o, h1, h2, n, h3⟩), by rw [← rv.length]; exact hz⟩
  have hlen := rv.length
  rw [List.length_map] at hlen
  have fin : ∀ out : List Value, Vals ((bs.mergeSort (PySem.W.dataLe false (·.2.py))).map (·.1)) out → L2.EP X pins σ Q (.ref (s.heap.objs.size + 1)) { s with heap := sortedAll s.heap its out.toArray } := fun out ro => by
    obtain ⟨ep, he'⟩ := sortedAll_at s.heap its out.toArray
    have hlen' : ((bs.mergeSort (PySem.W.dataLe false (·.2.py))).map (·.1)).length ≤ sizeLine := by
      rw [List.length_map, List.length_mergeSort, hlen]
      exact hz
    exact ⟨.ref _, upd H (s.heap.objs.size + 1) (.lst _), I.laid (t' := s.toks) (fun _ _ => sortedAll_old) (Nat.le_succ _) ⟨hlen', out, ep, ro, he'⟩, rfl, q _ (I.hok.fresh (Nat.le_succ _))⟩
  refine sorted_by hl hz fun E' => ?_
  rcases hk with hk | ⟨h1, h2, h3⟩
  · refine SrtO.list_sort_ord (s := { s with heap := PySem.W.copyHeap s.heap its }) SrtO.swo_int (PySem.W.copyHeap_at s.heap its) hz (fun h2 => absurd h2 (by omega)) fun out _ hb => ⟨rfl, ?_⟩
    have e : out = its := srt_short (by omega) hb.perm
    subst e
    exact fin _ (by rw [sort_short hk]; exact rv)
  · have er : PySem.W.EachIs (fun v (b : V × D) => ∃ as, Reads s.heap v b.2.py as) its bs := each_of_vals (h := s.heap) rv fun b hb u ru => Dp.reads I _ _ _ (h3 b hb).1 ru
    have e : PySem.W.EachIs (fun u (b : V × D) => RelV b.1 u) its bs := each_of_vals (h := s.heap) rv fun b hb u ru => ru
    have er' : PySem.W.EachIs (fun v (b : V × D) => ∃ as, Reads (PySem.W.sortingHeap (PySem.W.copyHeap s.heap its) (s.heap.objs.size + 1) its) v b.2.py as) its bs := er.mono fun _ _ ⟨as, r⟩ => ⟨as, PyProof.Rows.Reads.keeps (fun _ _ => PySem.W.sorting_copy_old) r⟩
    refine PySem.W.list_sort_vals (s := { s with heap := PySem.W.copyHeap s.heap its }) (PySem.W.copyHeap_at s.heap its) (PySem.W.SortsAt.data (s := { s with heap := PySem.W.sortingHeap (PySem.W.copyHeap s.heap its) (s.heap.objs.size + 1) its }) (PySem.W.each_map (R := fun v d => ∃ as, Reads (PySem.W.sortingHeap (PySem.W.copyHeap s.heap its) (s.heap.objs.size + 1) its) v d as) (fun b : V × D => b.2.py) er') h1 h2 (PySem.W.bound_map fun b hb => ?_)) hz ⟨rfl, ?_⟩
    · have z := (h3 b hb).2
      show X.A.units + 2 + b.2.py.depth < cLine
      omega
    · exact fin _ (vals_of_each (PySem.W.sortVals_data (enc := fun b : V × D => b.2.py) false e er' h1))
end
def D.alikeB (ds : List D) : Bool := ds.all fun d => ds.all fun e => PySem.W.alike d.py e.py
def D.sortB (ds : List D) : Bool := (ds.all fun d => match d with
  | .tup (_ :: _) => true
  | _ => false) || ds.all fun d => match d with
  | .tup _ => false
  | .non => false
  | _ => true
def sortC (ds : List D) : Bool := decide (ds.length < 2) || (D.alikeB ds && D.sortB ds && ds.all fun d => d.pure && decide (d.depth ≤ 64))
def sortD (ds : List D) : Option (D × Bool) := if sortC ds then some (.lst (ds.mergeSort D.le), true) else none
def dSorted : OpN
  | [.tup xs] => sortD xs
  | [.lst xs] => sortD xs
  | [.scr xs] => sortD xs
  | _ => none
theorem zip_fst {α β : Type} : ∀ {as : List α} {bs : List β}, as.length = bs.length → (as.zip bs).map (·.1) = as
  | [], [], _ => rfl
  | a :: as, b :: bs, h => by
    show a :: (as.zip bs).map (·.1) = _
    rw [zip_fst (by simpa using h)]
theorem zip_snd {α β : Type} : ∀ {as : List α} {bs : List β}, as.length = bs.length → (as.zip bs).map (·.2) = bs
  | [], [], _ => rfl
  | a :: as, b :: bs, h => by
    show b :: (as.zip bs).map (·.2) = _
    rw [zip_snd (by simpa using h)]
theorem Reps.zips {K : PySem.W.Frag} {G : Hp} {al : List Addr} : ∀ {vs : List V} {ds : List D}, Reps K G al vs ds → ∀ p ∈ vs.zip ds, Rep K G al p.1 p.2
  | _, _, .nil, p, h => (by cases h)
  | _, _, .cons h r, p, hp => by
    rw [List.zip_cons_cons, List.mem_cons] at hp
    rcases hp with rfl | hp
    · exact h
    · exact Reps.zips r p hp
theorem Reps.ofPairs {K : PySem.W.Frag} {G : Hp} {al : List Addr} : ∀ {bs : List (V × D)}, (∀ p ∈ bs, Rep K G al p.1 p.2) → Reps K G al (bs.map (·.1)) (bs.map (·.2))
  | [], _ => .nil
  | b :: bs, h => .cons (h b (List.mem_cons_self ..)) (Reps.ofPairs fun p hp => h p (List.mem_cons_of_mem _ hp))
theorem alikeB_of {ds : List D} (h : D.alikeB ds = true) : PySem.W.AllAlike (ds.map D.py) := by
  intro d hd e he
  obtain ⟨x, hx, rfl⟩ := List.mem_map.mp hd
  obtain ⟨y, hy, rfl⟩ := List.mem_map.mp he
  exact List.all_eq_true.mp (List.all_eq_true.mp h x hx) y hy
theorem sortB_of {ds : List D} (h : D.sortB ds = true) : PySem.W.Sortable (ds.map D.py) := by
  unfold D.sortB at h
  rw [Bool.or_eq_true] at h
  rcases h with h | h
  · refine .inl fun d hd => ?_
    obtain ⟨x, hx, rfl⟩ := List.mem_map.mp hd
    have z := List.all_eq_true.mp h x hx
    split at z
    · exact ⟨_, _, by rw [D.py, D.pys]⟩
    · cases z
  · refine .inr fun d hd => ?_
    obtain ⟨x, hx, rfl⟩ := List.mem_map.mp hd
    have z := List.all_eq_true.mp h x hx
    cases x <;> simp [D.py] at z ⊢
theorem sort_pairs {vs : List V} {ds : List D} (h : vs.length = ds.length) : ((vs.zip ds).mergeSort (PySem.W.dataLe false fun p : V × D => p.2.py)).map (·.2) = ds.mergeSort D.le := by
  have e := List.map_mergeSort (r := PySem.W.dataLe false fun p : V × D => p.2.py) (s := D.le) (f := fun p : V × D => p.2) (l := vs.zip ds) (fun a _ b _ => rfl)
  rw [e, zip_snd h]
theorem ok_sorted {K : PySem.W.Frag} : OkN K (rSortedD K) dSorted := by
  intro W M H x d res Q w rs h q
  have go : ∀ {xs : List D} {a : Addr} {vs : List V}, (SqL K H a vs ∨ SqT K H a vs) → RepsW K W vs xs → sortD xs = some res → rSortedD K [.ref a] H Q := fun {xs a vs} hs r h => by
    unfold sortD at h
    split at h
    · rename_i hc
      cases h
      have hl := r.length
      refine ⟨a, vs.zip xs, rfl, by rw [zip_fst hl]; exact hs, ?_, fun p hp => ?_⟩
      · unfold sortC at hc
        simp only [Bool.or_eq_true, decide_eq_true_eq, Bool.and_eq_true] at hc
        rcases hc with hc | ⟨⟨h1, h2⟩, h3⟩
        · exact .inl (by rw [List.length_zip, hl, Nat.min_self]; exact hc)
        · have e : (vs.zip xs).map (fun p : V × D => p.2.py) = xs.map D.py := by
            rw [show (fun p : V × D => p.2.py) = D.py ∘ (fun p : V × D => p.2) from rfl, ← List.map_map, zip_snd hl]
          refine .inr ⟨by rw [e]; exact alikeB_of h1, by rw [e]; exact sortB_of h2, fun b hb => ?_⟩
          have rb := Reps.zips r b hb
          have hm : b.2 ∈ xs := by
            have z : b.2 ∈ (vs.zip xs).map (·.2) := List.mem_map.mpr ⟨b, hb, rfl⟩
            rw [zip_snd hl] at z
            exact z
          have z := List.all_eq_true.mp h3 _ hm
          rw [Bool.and_eq_true, decide_eq_true_eq] at z
          exact ⟨(Rep.dp w.g rb z.1).1, by rw [D.depth_py _ z.1]; exact z.2⟩
      · have rr : RepsW K W (((vs.zip xs).mergeSort (PySem.W.dataLe false fun p : V × D => p.2.py)).map (·.1)) (((vs.zip xs).mergeSort (PySem.W.dataLe false fun p : V × D => p.2.py)).map (·.2)) := Reps.ofPairs fun p hp => Reps.zips r p (List.mem_mergeSort.mp hp)
        rw [sort_pairs hl] at rr
        obtain ⟨w3, r3⟩ := w.newL hp (.lst rr)
        exact q _ _ _ (Evo.refl W) w3 r3
    · cases h
  unfold dSorted at h
  split at h
  · obtain ⟨v, rfl, r⟩ := RepP.one rs
    obtain ⟨a, vs, rfl, h1, r1⟩ := r.tup w
    exact go (.inr h1) r1 h
  · obtain ⟨v, rfl, r⟩ := RepP.one rs
    obtain ⟨a, vs, rfl, h1, r1⟩ := r.lst w
    exact go (.inl (.inl (.inl h1))) r1 h
  · obtain ⟨v, rfl, r⟩ := RepP.one rs
    obtain ⟨a, vs, rfl, h1, r1⟩ := r.scr w
    exact go (.inl h1) r1 h
  · cases h
end R

set_option Elab.async false
set_option linter.all false
set_option maxRecDepth 100000
set_option maxHeartbeats 4000000
/-! R14: sets of whole numbers and texts: made, counted, sorted -/
namespace R
open PySem PySem.Spec PySem.Calls PyProof.Rows L2
theorem each_perm {α β : Type} {T : α → β → Prop} : ∀ {as as' : List α} {bs : List β}, as'.Perm as → PySem.W.EachIs T as bs → ∃ bs' : List β, bs'.Perm bs ∧ PySem.W.EachIs T as' bs' := by
  intro as as' bs p
  induction p generalizing bs with
  | nil => exact fun h => ⟨bs, List.Perm.refl _, h⟩
  | cons x _ ih =>
    intro h
    cases h with
    | cons h t =>
      obtain ⟨bs', p', t'⟩ := ih t
      exact ⟨_ :: bs', p'.cons _, .cons h t'⟩
  | swap x y l =>
    intro h
    cases h with
    | cons h t =>
      cases t with
      | cons h2 t =>
        exact ⟨_ :: _ :: _, List.Perm.swap .., .cons h2 (.cons h t)⟩
  | trans _ _ ih1 ih2 =>
    intro h
    obtain ⟨b1, p1, e1⟩ := ih2 h
    obtain ⟨b2, p2, e2⟩ := ih1 e1
    exact ⟨b2, p2.trans p1, e2⟩
theorem each_mem1 {α β : Type} {T : α → β → Prop} : ∀ {as : List α} {bs : List β}, PySem.W.EachIs T as bs → ∀ a ∈ as, ∃ b ∈ bs, T a b
  | _, _, .nil, a, h => (by cases h)
  | _, _, .cons h t, a, ha => by
    rcases List.mem_cons.mp ha with rfl | ha
    · exact ⟨_, List.mem_cons_self .., h⟩
    · obtain ⟨b, hb, q⟩ := each_mem1 t a ha
      exact ⟨b, List.mem_cons_of_mem _ hb, q⟩
theorem each_mem2 {α β : Type} {T : α → β → Prop} : ∀ {as : List α} {bs : List β}, PySem.W.EachIs T as bs → ∀ b ∈ bs, ∃ a ∈ as, T a b
  | _, _, .nil, a, h => (by cases h)
  | _, _, .cons h t, b, hb => by
    rcases List.mem_cons.mp hb with rfl | hb
    · exact ⟨_, List.mem_cons_self .., h⟩
    · obtain ⟨a, ha, q⟩ := each_mem2 t b hb
      exact ⟨a, List.mem_cons_of_mem _ ha, q⟩
/-- an entry of the table that stands for a key -/
def EntM (w : World) (e : Int × Value) (k : Key) : Prop := keyIs k e.2 = true ∧ e.1 = keyH w k
def LedM (w : World) (t : SetTable) : Prop := w.params.followText "set-order" = true ∨ t.led = true
/-- the set at a has the keys L -/
def SetM (w : World) (h : Heap) (a : Addr) (L : List Key) : Prop :=
  ∃ o es ep t ks, h.get? a = some o ∧ o.ExactSet ∧ o.data = .set es ep t ∧ ks.Perm L ∧ PySem.W.EachIs (EntM w) es.toList ks ∧ L.Nodup ∧ es.size < scanBound ∧ t.fits es.size = true ∧ Ris t.place.toList ∧ LedM w t
theorem keyIs_scan {k : Key} {v : Value} (h : keyIs k v = true) : v.scannable = true := by
  rcases keyIs_shape h with ⟨i, t, rfl, rfl⟩ | ⟨x, t, rfl, rfl⟩ <;> rfl
section
variable {P : Program} {w : World} {h h' : Heap} {a : Addr} {L : List Key}
theorem SetM.at (m : SetM w h a L) (k : ∀ o, h.get? a = some o → h'.get? a = some o) : SetM w h' a L := by
  obtain ⟨o, es, ep, t, ks, ho, r⟩ := m
  exact ⟨o, es, ep, t, ks, k o ho, r⟩
theorem SetM.new (ho : h.get? a = some { cls := .type "set", dict := none, data := .set #[] 0 (.fresh 0 0 (!w.params.followText "set-order")) }) : SetM w h a [] :=
  ⟨_, #[], 0, _, [], ho, ⟨rfl, rfl, rfl⟩, rfl, List.Perm.refl _, .nil, List.nodup_nil, (by decide), (by rfl), List.Pairwise.nil, by
    show _ ∨ (!w.params.followText "set-order") = true
    cases w.params.followText "set-order"
    · exact .inr rfl
    · exact .inl rfl⟩
theorem entM_elems {es : List (Int × Value)} {ks : List Key} (e : PySem.W.EachIs (EntM w) es ks) : ElemsOf (mixKind P w) es := fun x hx => by
  obtain ⟨k, _, q⟩ := each_mem1 e x hx
  exact ⟨⟨k, q.1, q.2⟩, keyIs_scan q.1⟩
end
section
variable {P : Program} {w : World} {A : Around} {E : Value → Shared → Prop} {s : Shared} {a : Addr} {L : List Key}
theorem addM_tail {g : Bool → Sem Unit} (hg : ∀ (b : Bool) (s₁ : Shared) (Q' : Unit → Shared → Prop), Q' () s₁ → wpAny (model P w) A (g b) Q' E s₁)
    {o : Obj} {es es1 : Array (Int × Value)} {ep : Nat} {t t2 : SetTable} {ks : List Key} (ho : s.heap.get? a = some o) (hex : o.ExactSet) (hd : o.data = .set es ep t)
    (e1 : PySem.W.EachIs (EntM w) es1.toList ks) (p1 : ks.Perm L) (nd : L.Nodup) (hb : es1.size < scanBound) (hf : t2.fits es1.size = true) (hr : Ris t2.place.toList) (hl : LedM w t2) {dm : Bool} {T : Option Bool → Shared → Prop}
    (hT : ∀ h', Heap.SameBut a s.heap h' → SetM w h' a L → T (some true) { s with heap := h' }) :
    wpAny (model P w) A (do
        storeSet a es1 t2
        if (!dm && t2.tooFull) = true then do
            g (relayAll t2 es1 (SetTable.grown es1.size)).2.2
            storeSet a (relayAll t2 es1 (SetTable.grown es1.size)).1 (relayAll t2 es1 (SetTable.grown es1.size)).2.1
            pure (some true)
          else pure (some true)) T E s := by
  have so := store_at (es' := es1) (t' := t2) ho hd
  have sb := Heap.SameBut.update s.heap a (Obj.putSet es1 t2)
  refine wpAny_bind (wpAny_storeSet_of ho hd ?_ (fits_of_scanBound hb))
  split
  · have c1 := relayAll_perm t2 es1 (SetTable.grown es1.size)
    have c2 := relayAll_fits t2 es1 (SetTable.grown es1.size)
    have c3 := relayAll_ris t2 es1 (SetTable.grown es1.size)
    have c4 := relayAll_led t2 es1 (SetTable.grown es1.size)
    generalize relayAll t2 es1 (SetTable.grown es1.size) = Z at c1 c2 c3 c4 ⊢
    obtain ⟨es2, t3, gave⟩ := Z
    dsimp only at c1 c2 c3 c4 ⊢
    have hs : es2.size = es1.size := by rw [← Array.length_toList, c1.length_eq, Array.length_toList]
    refine wpAny_bind (hg _ _ _ ?_)
    refine wpAny_bind (wpAny_storeSet_of so rfl ?_ (fits_of_scanBound (by rw [hs]; exact hb)))
    obtain ⟨k2, p2, e2⟩ := each_perm c1 e1
    refine wpAny_pure (hT _ (sb.trans (Heap.SameBut.update _ a _)) ⟨_, es2, _, t3, k2, store_at (es' := es2) (t' := t3) so rfl, hex, rfl, p2.trans p1, e2, nd, by rw [hs]; exact hb, c2, c3, ?_⟩)
    rcases hl with z | z
    · exact .inl z
    · exact .inr (c4.trans z)
  · exact wpAny_pure (hT _ sb ⟨_, es1, _, t2, ks, so, hex, rfl, p1, e1, nd, hb, hf, hr, hl⟩)
def hasK (L : List Key) (k : Key) : Bool := L.any fun j => decide (j = k)
theorem hasK_iff {L : List Key} {k : Key} : hasK L k = true ↔ k ∈ L := by
  unfold hasK
  rw [List.any_eq_true]
  exact ⟨fun ⟨j, h, e⟩ => of_decide_eq_true e ▸ h, fun h => ⟨k, h, decide_eq_true rfl⟩⟩
def addK (L : List Key) (k : Key) : List Key := if hasK L k = true then L else L ++ [k]
theorem addM_hashed {k : Key} {x : Value} {Q : Bool → Shared → Prop} (hk : keyIs k x = true) (m : SetM w s.heap a L) (room : L.length + 1 < scanBound)
    (hQ : ∀ (b : Bool) h', Heap.SameBut a s.heap h' → SetM w h' a (addK L k) → Q b { s with heap := h' }) : wpAny (model P w) A (setAddHashed a x ((mixKind P w).hash k)) Q E s := by
  obtain ⟨o, es, ep, t, ks, ho, hex, hd, pm, he, nd, hb, hf, hr, hl⟩ := m
  have hkey : (mixKind P w).is k x = true := hk
  have hsc := keyIs_scan hk
  have hel : ElemsOf (mixKind P w) es.toList := entM_elems he
  have hlen : es.size = L.length := by rw [← Array.length_toList, he.length, pm.length_eq]
  unfold setAddHashed setAddHashedIn
  refine wpAny_holding (wpAny_bind (wpAny_setState_of ho hd hf ?_))
  dsimp only
  rw [byScan_of hsc hb hel]
  simp only [↓reduceIte]
  unfold setAddByScan
  refine wpAny_bind ?_
  refine wpAny_bind (wpAny_rule ?_)
  refine wpAny_bind (wpAny_setScan_of hkey ho hd hf hel ?_)
  cases hfi : List.findIdx? (fun e => (mixKind P w).is k e.2) es.toList with
  | some j =>
    dsimp only
    obtain ⟨hj, pj, _⟩ := List.findIdx?_eq_some_iff_getElem.mp hfi
    obtain ⟨k', hk', q⟩ := each_mem1 he _ (List.getElem_mem hj)
    have ek : k = k' := (mixKind P w).inj _ _ _ pj q.1
    have hm : k ∈ L := pm.mem_iff.mp (ek ▸ hk')
    refine wpAny_pure (wpAny_pure ?_)
    exact hQ _ s.heap (Heap.SameBut.refl a s.heap) (by
      unfold addK
      rw [if_pos (hasK_iff.mpr hm)]
      exact ⟨o, es, ep, t, ks, ho, hex, hd, pm, he, nd, hb, hf, hr, hl⟩)
  | none =>
    dsimp only
    have hn : k ∉ L := fun z => by
      obtain ⟨e, hm, q⟩ := each_mem2 he k (pm.mem_iff.mpr z)
      have c := List.findIdx?_eq_none_iff.mp hfi e hm
      have c' : (mixKind P w).is k e.2 = true := q.1
      rw [c'] at c
      cases c
    have hgw : ∀ (b : Bool) {s₁ : Shared} {Q' : Unit → Shared → Prop}, Q' () s₁ → wpAny (model P w) A (match b with | true => rule "set.scan.the-table-gave-way" | false => pure ()) Q' E s₁ :=
      fun b s₁ Q' q => by cases b <;> first | exact wpAny_pure q | exact wpAny_rule q
    have pn := layNew_perm t es ((mixKind P w).hash k) x
    have hf1 := layNew_fits t es ((mixKind P w).hash k) x
    have hr1 := layNew_ris t es ((mixKind P w).hash k) x hr
    have hl1 := layNew_led t es ((mixKind P w).hash k) x
    generalize layNew t es ((mixKind P w).hash k) x = Z at pn hf1 hr1 hl1 ⊢
    obtain ⟨es1, t1, dm, gave⟩ := Z
    dsimp only at pn hf1 hr1 hl1 ⊢
    rw [Array.toList_push] at pn
    have pc : es1.toList.Perm (((mixKind P w).hash k, x) :: es.toList) := pn.trans (List.perm_append_singleton _ _)
    obtain ⟨k1, q1, e1⟩ := each_perm pc (PySem.W.EachIs.cons (R := EntM w) (b := k) ⟨hk, rfl⟩ he)
    have pL : k1.Perm (L ++ [k]) := q1.trans ((pm.cons k).trans (List.perm_append_singleton _ _).symm)
    have nd1 : (L ++ [k]).Nodup := (List.perm_append_singleton _ _).nodup_iff.mpr (List.nodup_cons.mpr ⟨hn, nd⟩)
    have hb1 : es1.size < scanBound := by rw [← Array.length_toList, pc.length_eq, List.length_cons, Array.length_toList, hlen]; exact room
    have hled : LedM w t1 := by
      rcases hl with z | z
      · exact .inl z
      · exact .inr (hl1.trans z)
    have fin : ∀ h', Heap.SameBut a s.heap h' → SetM w h' a (L ++ [k]) → Q true { s with heap := h' } := fun h' sb r => hQ _ h' sb (by
      unfold addK
      rw [if_neg (fun z => hn (hasK_iff.mp z))]
      exact r)
    refine wpAny_bind (hgw _ ?_)
    split
    · refine wpAny_bind ?_
      rw [hashByValue_scannable 8 hsc]
      refine wpAny_pure ?_
      refine addM_tail ?_ ho hex hd e1 pL nd1 hb1 ?_ ?_ ?_ ?_
      · intro b s₁ Q' q
        cases b <;> first | exact wpAny_pure q | exact wpAny_rule q
      · first | (split <;> first | exact hf1 | exact SetTable.fits_plain_off hf1) | exact hf1
      · first | (split <;> exact hr1) | exact hr1
      · first | (split <;> exact hled) | exact hled
      · intro h' sb r
        dsimp only
        exact wpAny_pure (fin h' sb r)
    · refine wpAny_bind (wpAny_pure ?_)
      simp only [↓reduceIte]
      refine addM_tail ?_ ho hex hd e1 pL nd1 hb1 hf1 hr1 hled ?_
      · intro b s₁ Q' q
        cases b <;> first | exact wpAny_pure q | exact wpAny_rule q
      · intro h' sb r
        dsimp only
        exact wpAny_pure (fin h' sb r)
/-- the keys once each, in the order in which they come first -/
def onceK (ks : List Key) : List Key := ks.foldl addK []
theorem addK_len (L : List Key) (k : Key) : (addK L k).length ≤ L.length + 1 := by
  unfold addK
  split
  · omega
  · simp
theorem onceK_snoc (ks : List Key) (k : Key) : onceK (ks ++ [k]) = addK (onceK ks) k := by
  unfold onceK
  rw [List.foldl_append]
  rfl
theorem onceK_take {ks : List Key} {i : Nat} {k : Key} (h : ks[i]? = some k) : onceK (ks.take (i + 1)) = addK (onceK (ks.take i)) k := by
  rw [List.take_add_one, h]
  exact onceK_snoc _ _
theorem onceK_len (ks : List Key) : (onceK ks).length ≤ ks.length := by
  have key : ∀ (ks L : List Key), (ks.foldl addK L).length ≤ L.length + ks.length := fun ks => by
    induction ks with
    | nil => exact fun L => Nat.le_refl _
    | cons k ks ih =>
      intro L
      have a := ih (addK L k)
      have b := addK_len L k
      show (ks.foldl addK (addK L k)).length ≤ L.length + (ks.length + 1)
      omega
  have z := key ks []
  simpa [onceK] using z
theorem set_update_keys {I : Addr} {fp wr : List Addr} {G : Array GenState → Array GenState → Prop} {n : Nat} {Pv : Nat → Value → Prop} {St : Nat → Shared → Prop} {T : Result → Shared → Prop}
    (W : WalksS P w A.in1 I fp wr G n Pv St) (S : Addr) (hSf : S ∉ fp) (ks : List Key) (hn : n = ks.length) (hb : ks.length + 1 < scanBound) (hval : ∀ i v, Pv i v → ∃ k, ks[i]? = some k ∧ keyIs k v = true) :
    ∀ (j i : Nat) (s : Shared), n - i = j → i ≤ n → St i s → SetM w s.heap S (onceK (ks.take i)) →
      (∀ s', Moved (S :: wr) G s s' → SetM w s'.heap S (onceK ks) → T (.ok (.ret .none)) s') → codeAny (model P w) A (.builtin "set.update.loop" ⟨[.ref S, .ref I], []⟩) T s := by
  have hSw : S ∉ wr := fun h => hSf (W.sub _ h)
  have hsub : ∀ b ∈ wr, b ∈ S :: wr := fun b hb => List.mem_cons_of_mem _ hb
  intro j
  induction j with
  | zero =>
    intro i s hj hi hst m hT
    have e : i = n := by omega
    subst e
    refine codeAny_builtin F.entry_set_update_loop ?_
    rw [Around.under_plainId F.plain_set_update_loop _]
    show wpAny _ A.in1 (pyNext (.ref I) >>= _) _ _ s
    refine wpAny_bind (W.done s _ _ hst fun s' hm => ?_)
    rw [List.take_of_length_le (by omega)] at m
    exact wpAny_pure (hT s' (hm.mono hsub) (m.at fun o e => hm.heap S o hSw e))
  | succ j ih =>
    intro i s hj hi hst m hT
    refine codeAny_builtin F.entry_set_update_loop ?_
    rw [Around.under_plainId F.plain_set_update_loop _]
    show wpAny _ A.in1 (pyNext (.ref I) >>= _) _ _ s
    refine wpAny_bind (W.item i s _ _ (by omega) hst fun v s' hP hst' hm => ?_)
    obtain ⟨k, hk, hv⟩ := hval i v hP
    show wpAny _ A.in1 (holding [v] (setAdd S v) >>= _) _ _ s'
    refine wpAny_bind (wpAny_holding ?_)
    unfold setAdd
    refine wpAny_holding ?_
    refine wpAny_bind ((mixKind P w).pyHash (k := k) hv ?_)
    have room : (onceK (ks.take i)).length + 1 < scanBound := by
      have z := onceK_len (ks.take i)
      rw [List.length_take] at z
      omega
    refine addM_hashed (s := { s' with toks := s'.toks + 1 }) hv (m.at fun o e => hm.heap S o hSw e) room fun b h' sb m2 => ?_
    rw [← onceK_take hk] at m2
    refine wpAny_pure ⟨plainId_quiet F.plain_set_update_loop _, ih (i + 1) _ (by omega) (by omega) (W.frame _ s' _ _ hst' (Nat.le_succ _) fun b hb o e => ?_) m2 fun s'' hm'' m3 => ?_⟩
    · rw [sb.2 b (fun h : b = S => hSf (h ▸ hb))]
      exact e
    · refine hT s'' (Moved.trans W.gtrans ((hm.mono hsub).then_heap (Nat.le_succ _) fun b o hb e => ?_) hm'') m3
      rw [sb.2 b (fun h : b = S => hb (by rw [h]; exact List.mem_cons_self))]
      exact e
end
end R

set_option Elab.async false
set_option linter.all false
set_option maxRecDepth 100000
set_option maxHeartbeats 4000000
/-! R15: set(xs), len(set(xs)), sorted(set(xs)) -/
namespace R
open PySem PySem.Spec PySem.Calls PyProof.Rows L2
section
variable {P : Program} {w : World} {A : Around} {E : Value → Shared → Prop} {s : Shared}

set_option maxHeartbeats 3200000 in
theorem call_set_list {l : Addr} {items : Array Value} (ks : List Key) {Q : Value → Shared → Prop} (hh : A.handled = none) (hl : s.heap.IsList l items) (hn : items.size = ks.length) (hit : ∀ (i : Nat) (v : Value), items[i]? = some v → ∃ k, ks[i]? = some k ∧ keyIs k v = true) (hb : ks.length + 1 < scanBound)
    (h : ∀ (h' : Heap) (tk : Nat), SetM w h' s.heap.objs.size (onceK ks) → (∀ b o, s.heap.get? b = some o → h'.get? b = some o) → Q (.ref s.heap.objs.size) { s with heap := h', toks := tk }) :
    wpAny (model P w) A (call (.type "set") [.ref l]) Q E s := by
  obtain ⟨c, tl, hmro⟩ := F.called_set.mro
  have hmade := F.called_set.made
  have hsub := F.called_set.sub
  refine wpAny_call (codeAny_of_tree ?_)
  show wpAny _ _ (callAny (.type "set") _) _ _ _
  refine wpAny_pure ⟨Code.quiet_builtin _ (by decide +kernel), codeAny_builtin F.entry_type_call ?_⟩
  rw [Around.under_plain (weight_type_call_type "set" [.ref l] []) rfl]
  have h1 := F.called_set.notType
  have h2 := F.called_set.canCreate
  have hct := F.typeCall_set_1 (.ref l)
  repeat (any_goals (first | assumption | wp_step))
  refine codeAny_mono (code_set_led1 (.ref l) (E := E) (Q₁ := fun obj s₁ => obj = .ref s.heap.objs.size ∧ s₁ = { s with heap := s.heap.push { cls := .type "set", dict := none, data := .set #[] 0 (.fresh 0 0 (!w.params.followText "set-order")) } }) ⟨rfl, rfl⟩) fun r s₁ hr => ?_
  cases r with
  | error e => exact hr
  | ok fl =>
    cases fl with
    | ret obj =>
      obtain ⟨rfl, rfl⟩ := hr
      have hS : (s.heap.push { cls := .type "set", dict := none, data := .set #[] 0 (.fresh 0 0 (!w.params.followText "set-order")) }).get? s.heap.objs.size = some { cls := .type "set", dict := none, data := .set #[] 0 (.fresh 0 0 (!w.params.followText "set-order")) } := Heap.get?_push_size _ rfl
      have hT : Shared.TypeIs { s with heap := s.heap.push { cls := .type "set", dict := none, data := .set #[] 0 (.fresh 0 0 (!w.params.followText "set-order")) } } (.ref s.heap.objs.size) "set" := ⟨_, hS, rfl⟩
      have hli := F.called_set.init.lookup
      have hbi := F.called_set.init.bind (.ref s.heap.objs.size)
      repeat (any_goals (first | assumption | wp_step))
      refine codeAny_mono (codeAny_call_builtin (R := wants (fun r s₂ => r = .none ∧ ∃ h' tk, s₂ = { s with heap := h', toks := tk } ∧ SetM w h' s.heap.objs.size (onceK ks) ∧
          (∀ b o, s.heap.get? b = some o → h'.get? b = some o)) E) F.called_set.init.plain F.entry_set_init (check_set_init_1 hT ?_)) fun r₂ s₂ hr₂ => ?_
      · obtain ⟨⟨ocls, odict, odata, oslots⟩, hol, hcl, nl, hdl⟩ := hl
        simp only at hcl hdl
        subst hcl
        subst hdl
        have hol' : (s.heap.push { cls := .type "set", dict := none, data := .set #[] 0 (.fresh 0 0 (!w.params.followText "set-order")) }).get? l = some { cls := .type "list", dict := odict, data := .seq items nl, slots := oslots } := Heap.get?_push_of_some _ hol
        have hsls := F.sub_list_set
        have hslf := F.sub_list_frozenset
        have hne : (Value.type "list" == Value.type "dict") = false := by decide
        have hl1 : (s.heap.push { cls := .type "set", dict := none, data := .set #[] 0 (.fresh 0 0 (!w.params.followText "set-order")) }).IsList l items := ⟨_, hol', rfl, nl, rfl⟩
        unfold Builtin.«set.__init__» noKeywords Builtin.Frozenset.updateFrom
        generalize hPI : pyIter = PI
        wp_walk
        subst hPI
        refine wpAny_pyIter_list hl1 ?_
        refine wpAny_bind (wpAny_runValue ?_)
        have hlS : l < s.heap.objs.size := Heap.lt_size hol
        have hh3 : A.in1.in1.in1.handled = none := by simp [hh]
        have hneI : l ≠ (s.heap.push { cls := .type "set", dict := none, data := .set #[] 0 (.fresh 0 0 (!w.params.followText "set-order")) }).objs.size := by
          rw [Heap.size_push]
          exact Nat.ne_of_lt (Nat.lt_succ_of_lt hlS)
        have hSf : s.heap.objs.size ∉ [(s.heap.push { cls := .type "set", dict := none, data := .set #[] 0 (.fresh 0 0 (!w.params.followText "set-order")) }).objs.size, l] := by
          rw [Heap.size_push]
          simp only [List.mem_cons, List.not_mem_nil, or_false, not_or]
          exact ⟨Nat.ne_of_lt (Nat.lt_succ_self _), Nat.ne_of_gt hlS⟩
        refine set_update_keys ((Walks.list hh3 _ l hneI items).toS) s.heap.objs.size hSf ks hn hb hit (items.size - 0) 0 _ (by omega) (Nat.zero_le _) ⟨⟨_, Heap.get?_push_size _ rfl, rfl, rfl⟩, (hl1.push _)⟩ ?hS0 ?hR
        case hS0 =>
          exact SetM.new (Heap.get?_push_of_some _ hS)
        case hR =>
          intro s' hm hS'
          obtain ⟨h', g2, d', tk', os'⟩ := s'
          have eg : g2 = s.gens := hm.gens
          have ed : d' = s.drawn := hm.drawn
          have eo : os' = s.os := hm.os
          subst eg
          subst ed
          subst eo
          show wpAny _ _ _ _ _ _
          refine wpAny_pure ?_
          show wpAny _ _ (ret Value.none) _ _ _
          refine wpAny_pure ⟨rfl, h', tk', rfl, hS', fun b o e => ?_⟩
          have hb0 : b < s.heap.objs.size := Heap.lt_size e
          have hb2 : b ≠ (s.heap.push { cls := .type "set", dict := none, data := .set #[] 0 (.fresh 0 0 (!w.params.followText "set-order")) }).objs.size := by
            rw [Heap.size_push]
            exact Nat.ne_of_lt (Nat.lt_succ_of_lt hb0)
          exact hm.heap b o (by simp only [List.mem_cons, List.not_mem_nil, or_false, not_or]; exact ⟨Nat.ne_of_lt hb0, hb2⟩) (Heap.get?_push_of_some _ (Heap.get?_push_of_some _ e))
      · cases r₂ with
        | error e => exact hr₂
        | ok fl₂ =>
          cases fl₂ with
          | ret r =>
            obtain ⟨rfl, h', tk, rfl, hS', hk'⟩ := hr₂
            repeat (any_goals (first | assumption | wp_step))
            exact h _ _ hS' hk'
          | _ => exact hr₂.elim
    | _ => exact hr.elim

set_option maxHeartbeats 3200000 in
theorem call_set_tuple {l : Addr} {items : Array Value} (ks : List Key) {Q : Value → Shared → Prop} (hh : A.handled = none) (hl : s.heap.IsTuple l items) (hn : items.size = ks.length) (hit : ∀ (i : Nat) (v : Value), items[i]? = some v → ∃ k, ks[i]? = some k ∧ keyIs k v = true) (hb : ks.length + 1 < scanBound)
    (h : ∀ (h' : Heap) (tk : Nat), SetM w h' s.heap.objs.size (onceK ks) → (∀ b o, s.heap.get? b = some o → h'.get? b = some o) → Q (.ref s.heap.objs.size) { s with heap := h', toks := tk }) :
    wpAny (model P w) A (call (.type "set") [.ref l]) Q E s := by
  obtain ⟨c, tl, hmro⟩ := F.called_set.mro
  have hmade := F.called_set.made
  have hsub := F.called_set.sub
  refine wpAny_call (codeAny_of_tree ?_)
  show wpAny _ _ (callAny (.type "set") _) _ _ _
  refine wpAny_pure ⟨Code.quiet_builtin _ (by decide +kernel), codeAny_builtin F.entry_type_call ?_⟩
  rw [Around.under_plain (weight_type_call_type "set" [.ref l] []) rfl]
  have h1 := F.called_set.notType
  have h2 := F.called_set.canCreate
  have hct := F.typeCall_set_1 (.ref l)
  repeat (any_goals (first | assumption | wp_step))
  refine codeAny_mono (code_set_led1 (.ref l) (E := E) (Q₁ := fun obj s₁ => obj = .ref s.heap.objs.size ∧ s₁ = { s with heap := s.heap.push { cls := .type "set", dict := none, data := .set #[] 0 (.fresh 0 0 (!w.params.followText "set-order")) } }) ⟨rfl, rfl⟩) fun r s₁ hr => ?_
  cases r with
  | error e => exact hr
  | ok fl =>
    cases fl with
    | ret obj =>
      obtain ⟨rfl, rfl⟩ := hr
      have hS : (s.heap.push { cls := .type "set", dict := none, data := .set #[] 0 (.fresh 0 0 (!w.params.followText "set-order")) }).get? s.heap.objs.size = some { cls := .type "set", dict := none, data := .set #[] 0 (.fresh 0 0 (!w.params.followText "set-order")) } := Heap.get?_push_size _ rfl
      have hT : Shared.TypeIs { s with heap := s.heap.push { cls := .type "set", dict := none, data := .set #[] 0 (.fresh 0 0 (!w.params.followText "set-order")) } } (.ref s.heap.objs.size) "set" := ⟨_, hS, rfl⟩
      have hli := F.called_set.init.lookup
      have hbi := F.called_set.init.bind (.ref s.heap.objs.size)
      repeat (any_goals (first | assumption | wp_step))
      refine codeAny_mono (codeAny_call_builtin (R := wants (fun r s₂ => r = .none ∧ ∃ h' tk, s₂ = { s with heap := h', toks := tk } ∧ SetM w h' s.heap.objs.size (onceK ks) ∧
          (∀ b o, s.heap.get? b = some o → h'.get? b = some o)) E) F.called_set.init.plain F.entry_set_init (check_set_init_1 hT ?_)) fun r₂ s₂ hr₂ => ?_
      · obtain ⟨⟨ocls, odict, odata, oslots⟩, hol, hcl, nl, hdl⟩ := hl
        simp only at hcl hdl
        subst hcl
        subst hdl
        have hol' : (s.heap.push { cls := .type "set", dict := none, data := .set #[] 0 (.fresh 0 0 (!w.params.followText "set-order")) }).get? l = some { cls := .type "tuple", dict := odict, data := .seq items nl, slots := oslots } := Heap.get?_push_of_some _ hol
        have hsls := F.sub_tuple_set
        have hslf := F.sub_tuple_frozenset
        have hne : (Value.type "tuple" == Value.type "dict") = false := by decide
        have hl1 : (s.heap.push { cls := .type "set", dict := none, data := .set #[] 0 (.fresh 0 0 (!w.params.followText "set-order")) }).IsTuple l items := ⟨_, hol', rfl, nl, rfl⟩
        unfold Builtin.«set.__init__» noKeywords Builtin.Frozenset.updateFrom
        generalize hPI : pyIter = PI
        wp_walk
        subst hPI
        refine wpAny_pyIter_tuple hl1 ?_
        refine wpAny_bind (wpAny_runValue ?_)
        have hlS : l < s.heap.objs.size := Heap.lt_size hol
        have hh3 : A.in1.in1.in1.handled = none := by simp [hh]
        have hneI : l ≠ (s.heap.push { cls := .type "set", dict := none, data := .set #[] 0 (.fresh 0 0 (!w.params.followText "set-order")) }).objs.size := by
          rw [Heap.size_push]
          exact Nat.ne_of_lt (Nat.lt_succ_of_lt hlS)
        have hSf : s.heap.objs.size ∉ [(s.heap.push { cls := .type "set", dict := none, data := .set #[] 0 (.fresh 0 0 (!w.params.followText "set-order")) }).objs.size, l] := by
          rw [Heap.size_push]
          simp only [List.mem_cons, List.not_mem_nil, or_false, not_or]
          exact ⟨Nat.ne_of_lt (Nat.lt_succ_self _), Nat.ne_of_gt hlS⟩
        refine set_update_keys ((Walks.tuple hh3 _ l hneI items).toS) s.heap.objs.size hSf ks hn hb hit (items.size - 0) 0 _ (by omega) (Nat.zero_le _) ⟨⟨_, Heap.get?_push_size _ rfl, rfl, rfl⟩, (hl1.push _)⟩ ?hS0 ?hR
        case hS0 =>
          exact SetM.new (Heap.get?_push_of_some _ hS)
        case hR =>
          intro s' hm hS'
          obtain ⟨h', g2, d', tk', os'⟩ := s'
          have eg : g2 = s.gens := hm.gens
          have ed : d' = s.drawn := hm.drawn
          have eo : os' = s.os := hm.os
          subst eg
          subst ed
          subst eo
          show wpAny _ _ _ _ _ _
          refine wpAny_pure ?_
          show wpAny _ _ (ret Value.none) _ _ _
          refine wpAny_pure ⟨rfl, h', tk', rfl, hS', fun b o e => ?_⟩
          have hb0 : b < s.heap.objs.size := Heap.lt_size e
          have hb2 : b ≠ (s.heap.push { cls := .type "set", dict := none, data := .set #[] 0 (.fresh 0 0 (!w.params.followText "set-order")) }).objs.size := by
            rw [Heap.size_push]
            exact Nat.ne_of_lt (Nat.lt_succ_of_lt hb0)
          exact hm.heap b o (by simp only [List.mem_cons, List.not_mem_nil, or_false, not_or]; exact ⟨Nat.ne_of_lt hb0, hb2⟩) (Heap.get?_push_of_some _ (Heap.get?_push_of_some _ e))
      · cases r₂ with
        | error e => exact hr₂
        | ok fl₂ =>
          cases fl₂ with
          | ret r =>
            obtain ⟨rfl, h', tk, rfl, hS', hk'⟩ := hr₂
            repeat (any_goals (first | assumption | wp_step))
            exact h _ _ hS' hk'
          | _ => exact hr₂.elim
    | _ => exact hr.elim
end
end R

set_option Elab.async false
set_option linter.all false
set_option maxRecDepth 100000
set_option maxHeartbeats 4000000
/-! R16: len(set(xs)), sorted(set(xs)) -/
namespace R
open PySem PySem.Spec PySem.Calls PyProof.Rows L2
def addO {α : Type} [DecidableEq α] (L : List α) (k : α) : List α := if k ∈ L then L else L ++ [k]
/-- each once, in the order in which they come first -/
def once {α : Type} [DecidableEq α] (ks : List α) : List α := ks.foldl addO []
theorem once_map {α : Type} [DecidableEq α] {f : α → Key} (inj : ∀ a b, f a = f b → a = b) (ks : List α) : onceK (ks.map f) = (once ks).map f := by
  have key : ∀ (ks : List α) (L : List α), (ks.map f).foldl addK (L.map f) = (ks.foldl addO L).map f := fun ks => by
    induction ks with
    | nil => exact fun L => rfl
    | cons k ks ih =>
      intro L
      show (ks.map f).foldl addK (addK (L.map f) (f k)) = (ks.foldl addO (addO L k)).map f
      rw [← ih]
      congr 1
      unfold addK addO
      by_cases h : k ∈ L
      · rw [if_pos h, if_pos (hasK_iff.mpr (List.mem_map.mpr ⟨k, h, rfl⟩))]
      · rw [if_neg h, if_neg (fun z => h ?_), List.map_append]
        · rfl
        · obtain ⟨j, hj, e⟩ := List.mem_map.mp (hasK_iff.mp z)
          exact inj _ _ e ▸ hj
  exact key ks []
abbrev leI (a b : Int) : Bool := decide (a ≤ b)
abbrev leS (a b : Str) : Bool := decide (a.cps.toList ≤ b.cps.toList)
theorem str_inj {x y : Str} (h : x.cps.toList = y.cps.toList) : x = y := by
  have hc : x.cps = y.cps := Array.toList_inj.mp h
  cases x
  cases y
  cases hc
  rfl
theorem sort_same {α : Type} {le : α → α → Bool} (tr : ∀ a b c, le a b = true → le b c = true → le a c = true) (to : ∀ a b, (le a b || le b a) = true) (an : ∀ a b, le a b = true → le b a = true → a = b) {l l' : List α} (p : l.Perm l') : l.mergeSort le = l'.mergeSort le := by
  refine List.Perm.eq_of_pairwise (le := fun a b => le a b = true) (fun a b _ _ h1 h2 => an a b h1 h2) (List.pairwise_mergeSort tr to l) (List.pairwise_mergeSort tr to l') ?_
  exact (List.mergeSort_perm l le).trans (p.trans (List.mergeSort_perm l' le).symm)
theorem sortI_same {l l' : List Int} (p : l.Perm l') : l.mergeSort leI = l'.mergeSort leI :=
  sort_same (le := leI) (fun a b c h1 h2 => decide_eq_true (Int.le_trans (of_decide_eq_true h1) (of_decide_eq_true h2))) (fun a b => by simp only [leI, Bool.or_eq_true, decide_eq_true_eq]; omega) (fun a b h1 h2 => Int.le_antisymm (of_decide_eq_true h1) (of_decide_eq_true h2)) p
theorem sortS_same {l l' : List Str} (p : l.Perm l') : l.mergeSort leS = l'.mergeSort leS :=
  sort_same (le := leS) (fun a b c h1 h2 => decide_eq_true (List.le_trans (of_decide_eq_true h1) (of_decide_eq_true h2))) (fun a b => by simp only [leS, Bool.or_eq_true, decide_eq_true_eq]; exact List.le_total _ _) (fun a b h1 h2 => str_inj (List.le_antisymm (of_decide_eq_true h1) (of_decide_eq_true h2))) p
section
variable {P : Program} {w : World} {A : Around} {E : Value → Shared → Prop} {s : Shared}
theorem each_imp {α β : Type} {T U : α → β → Prop} : ∀ {as : List α} {bs : List β}, PySem.W.EachIs T as bs → (∀ a b, T a b → U a b) → PySem.W.EachIs U as bs
  | _, _, .nil, _ => .nil
  | _, _, .cons h t, f => .cons (f _ _ h) (each_imp t f)
theorem each_mapL {α β γ : Type} {T : β → γ → Prop} (f : α → β) : ∀ {as : List α} {bs : List γ}, PySem.W.EachIs (fun a b => T (f a) b) as bs → PySem.W.EachIs T (as.map f) bs
  | _, _, .nil => .nil
  | _, _, .cons h t => .cons h (each_mapL f t)
theorem each_un {α β γ : Type} {T : α → γ → Prop} (f : β → γ) : ∀ {as : List α} {bs : List β}, PySem.W.EachIs T as (bs.map f) → PySem.W.EachIs (fun a b => T a (f b)) as bs
  | [], [], _ => .nil
  | [], _ :: _, h => (by cases h)
  | _ :: _, [], h => (by cases h)
  | _ :: _, _ :: _, h => by
    cases h with
    | cons h t => exact .cons h (each_un f t)
/-- sorted(a set), where its keys are of one kind -/
theorem sorted_setM {β : Type} {a : Addr} {L : List β} {f : β → Key} {enc : β → PyData} {Q : Value → Shared → Prop} (m : SetM w s.heap a (L.map f)) (hh : A.handled = none) (hu : A.units + 70 < cLine)
    (hr : ∀ h v b, keyIs (f b) v = true → ∃ as, Reads h v (enc b) as) (hd0 : ∀ b, (enc b).depth = 0) (hal : ∀ L : List β, PySem.W.AllAlike (L.map enc)) (hso : ∀ L : List β, PySem.W.Sortable (L.map enc))
    (inj : ∀ a b, f a = f b → a = b) (hQ : ∀ s' p (out : List Value) (c : Nat) (L' : List β), (∀ b o, s.heap.get? b = some o → s'.heap.get? b = some o) → s'.gens = s.gens → s'.os = s.os → s.heap.objs.size ≤ p →
      s'.heap.get? p = some (seqObj "list" out.toArray c) → L'.Perm L → PySem.W.EachIs (fun v b => keyIs (f b) v = true) out (L'.mergeSort (PySem.W.dataLe false enc)) → Q (.ref p) s') :
    wpAny (model P w) A (call (.builtin "sorted") [.ref a]) Q E s := by
  obtain ⟨o, es, ep, t, ks, ho, hex, hd, pm, he, nd, hb, hf, hri, hl⟩ := m
  refine call_function_entry kind_sorted plain_sorted entry_sorted (args_sorted1 _) ?_
  unfold Builtin.«sorted»
  refine wpAny_bind (m := checkCount "sorted" 1 1 _) (wpAny_pure ?_)
  refine wpAny_bind (collect_set (A := A.in1) hh ⟨o, ho, hex.1, hd⟩ hf hb hri hl fun s1 vs k1 hz g1 o1 pv => ?_)
  have e1 : PySem.W.EachIs (fun v k => keyIs k v = true) (es.toList.map (·.2)) ks := each_mapL (·.2) (each_imp he fun e k h => h.1)
  obtain ⟨k2, p2, e2⟩ := each_perm pv e1
  have p3 : k2.Perm (L.map f) := p2.trans pm
  obtain ⟨L', pL, rfl⟩ : ∃ L' : List β, L'.Perm L ∧ k2 = L'.map f := by
    have key : ∀ {x y : List Key}, x.Perm y → ∀ L : List β, y = L.map f → ∃ L' : List β, L'.Perm L ∧ x = L'.map f := by
      intro x y p
      induction p with
      | nil =>
        intro L e
        cases L with
        | nil => exact ⟨[], List.Perm.refl _, rfl⟩
        | cons b L => cases e
      | cons x _ ih =>
        intro L e
        cases L with
        | nil => cases e
        | cons b L =>
          rw [List.map_cons, List.cons.injEq] at e
          obtain ⟨L', q, e2⟩ := ih L e.2
          exact ⟨b :: L', q.cons b, by rw [List.map_cons, ← e2, e.1]⟩
      | swap x y l =>
        intro L e
        match L, e with
        | b :: c :: L, e =>
          rw [List.map_cons, List.map_cons, List.cons.injEq, List.cons.injEq] at e
          exact ⟨c :: b :: L, List.Perm.swap .., by rw [List.map_cons, List.map_cons, e.1, e.2.1, e.2.2]⟩
      | trans _ _ ih1 ih2 =>
        intro L e
        obtain ⟨L1, q1, e1⟩ := ih2 L e
        obtain ⟨L2, q2, e2⟩ := ih1 L1 e1
        exact ⟨L2, q2.trans q1, e2⟩
    exact key p3 L rfl
  have e3 := each_un f e2
  have hz0 : vs.length < scanBound := by
    rw [pv.length_eq, List.length_map, Array.length_toList]
    exact hb
  have hz1 : vs.length ≤ sizeLine := fits_of_scanBound hz0
  refine wpAny_bind (wpAny_newList ?_ hz1)
  have hoL : (s1.heap.push (seqObj "list" vs.toArray 0)).get? s1.heap.objs.size = some (seqObj "list" vs.toArray 0) := Heap.get?_push_size _ rfl
  have er : ∀ h : Heap, PySem.W.EachIs (fun v b => ∃ as, Reads h v (enc b) as) vs L' := fun h => each_imp e3 fun v b q => hr h v b q
  refine wpAny_bind (wpAny_holding (wpAny_call_entry slot_list_sort ⟨_, hoL, rfl⟩ entry_list_sort
    (PySem.W.list_sort_vals hoL (PySem.W.SortsAt.data (PySem.W.each_map (R := fun v d => ∃ as, Reads (PySem.W.sortingHeap (s1.heap.push (seqObj "list" vs.toArray 0)) s1.heap.objs.size vs) v d as) enc (er _)) (hal L') (hso L') (PySem.W.bound_map fun b hb => ?_)) hz1 ⟨_, rfl, ?_⟩) (args_list_sort _)))
  · rw [hd0]
    show A.units + 2 + 0 < cLine
    omega
  · obtain ⟨c, hc⟩ := sortedHeap_at (vs := vs) (out := (PySem.W.sortVals (PySem.W.dataKind (PySem.W.sortingHeap (s1.heap.push (seqObj "list" vs.toArray 0)) s1.heap.objs.size vs) (L'.map enc)) false vs vs).toArray) hoL
    refine wpAny_pure ⟨_, rfl, hQ _ s1.heap.objs.size _ c L' (fun b u e => ?_) g1 o1 hz hc pL (PySem.W.sortVals_data (enc := enc) false e3 (er _) (hal L'))⟩
    have q := k1 b u e
    have hlt := Heap.lt_size q
    show (sortedHeap (s1.heap.push (seqObj "list" vs.toArray 0)) s1.heap.objs.size vs _).get? b = some u
    rw [sortedHeap_old (Nat.ne_of_lt hlt) (by rw [size_push']; exact Nat.lt_succ_of_lt hlt)]
    exact Heap.get?_push_of_some _ q
end

/-! ### the expressions -/
section
variable {X : Cx}
/-- set(a) is made; what is asked of it -/
def rSetM (K : PySem.W.Frag) (ask : List Key → Hp → VK → Prop) : V → Hp → VK → Prop := fun x H Q => ∃ (l : Addr) (ks : List Key), x = .ref l ∧ (SqL K H l (ks.map kV) ∨ SqT K H l (ks.map kV)) ∧ ks.length + 1 < scanBound ∧ ask (onceK ks) H Q
theorem vals_keys (P : Program) (w : World) : ∀ {ks : List Key} {us : List Value}, Vals (ks.map kV) us → us.length = ks.length ∧ ∀ (i : Nat) (v : Value), us[i]? = some v → ∃ k, ks[i]? = some k ∧ keyIs k v = true
  | [], _, .nil => ⟨rfl, fun i v h => by simp at h⟩
  | k :: ks, _, .cons r t => by
    obtain ⟨a, b⟩ := vals_keys P w t
    refine ⟨by rw [List.length_cons, List.length_cons, a], fun i v h => ?_⟩
    cases i with
    | zero =>
      rw [List.getElem?_cons_zero] at h
      cases h
      exact ⟨k, by simp, kV_is (P := P) (w := w) r⟩
    | succ i => simpa using b i v (by simpa using h)
theorem pe_ofSet {g : Str} {id : String} {ask : List Key → Hp → VK → Prop} {a : Expr} {ta : TE} {p p2 q pos : Pos} (hc : X.calm = true) (hg : Gl X g) (hm : X.mg g = none) (hv : bootBuiltins g = some (.builtin id)) (hn : g ≠ "__name__") (hdb : (g == ("__debug__" : Str)) = false)
    (hg2 : Gl X "set") (hm2 : X.mg "set" = none) (ha : PE X a ta) (hp : plainE a = true)
    (run : ∀ (L : List Key) (pins : List (Addr × Obj)) (s : Shared) (σ : L2.St) (H : Hp) (b : Addr) (Q : VK), L2.Inv X pins σ H s → SetM X.w s.heap b L → L.length < scanBound → ask L H Q → wpAny (model X.prog X.w) X.A (call (.builtin id) [.ref b]) (L2.EP X pins σ Q) X.xe s) :
    PE X (.Call (.Name g p) [.Call (.Name "set" p2) [a] [] q] [] pos) fun σ H Q => ta σ H fun x H1 => rSetM X.K ask x H1 Q := by
  refine ⟨fun pins s σ H Q I h => ?_⟩
  refine wpAny_Call_Name_kw (ld_blt I hg hm hv ?_ hn hdb)
  refine PyProof.Rows.callWith_builtin1 (PyProof.Rows.args_cons ?_ rfl) rfl rfl
  refine wpAny_Call_Name_kw (ld_blt I hg2 hm2 boot_set ?_)
  refine PyProof.Rows.callWith_type1 (PyProof.Rows.args_cons (thn (ha.run pins s σ H _ I h) fun v s1 ⟨x, H1, I1, r1, q1⟩ => PyProof.Rows.args_nil ?_) (star_cons hp)) (star_cons hp) rfl
  obtain ⟨l, ks, rfl, hq, hb, q1⟩ := q1
  cases r1
  have fin : ∀ (h' : Heap) (tk : Nat), SetM X.w h' s1.heap.objs.size (onceK ks) → (∀ b o, s1.heap.get? b = some o → h'.get? b = some o) →
      wpAny (model X.prog X.w) X.A (spliced (backTo pos (starEach [] X.env))) (fun vs s₂ => wpAny (model X.prog X.w) X.A (call (.builtin id) (Value.ref s1.heap.objs.size :: vs)) (L2.EP X pins σ Q) X.xe s₂) X.xe { s1 with heap := h', toks := tk } := fun h' tk m k => by
    refine PyProof.Rows.args_nil ?_
    have I2 : L2.Inv X pins σ H1 { s1 with heap := h', toks := tk } := I1.kept k
    exact run _ pins _ σ H1 _ Q I2 m (by have := onceK_len ks; omega) q1
  rcases hq with hq | hq
  · obtain ⟨its, r, pl, hz⟩ := I1.list hq
    obtain ⟨e1, e2⟩ := vals_keys X.prog X.w r
    exact call_set_list ks (I1.ok.hd hc) pl.isList (by simpa using e1) (fun i v hv => e2 i v (by simpa using hv)) hb fun h' tk m k => fin h' tk m k
  · obtain ⟨its, r, pl, hz⟩ := I1.tuple hq
    obtain ⟨e1, e2⟩ := vals_keys X.prog X.w r
    exact call_set_tuple ks (I1.ok.hd hc) (show s1.heap.IsTuple l its.toArray from pl) (by simpa using e1) (fun i v hv => e2 i v (by simpa using hv)) hb fun h' tk m k => fin h' tk m k
def askLen (L : List Key) (H : Hp) (Q : VK) : Prop := Q (.int (L.length : Nat)) H
theorem run_len (L : List Key) (pins : List (Addr × Obj)) (s : Shared) (σ : L2.St) (H : Hp) (b : Addr) (Q : VK) (I : L2.Inv X pins σ H s) (m : SetM X.w s.heap b L) (hl : L.length < scanBound) (h : askLen L H Q) : wpAny (model X.prog X.w) X.A (call (.builtin "len") [.ref b]) (L2.EP X pins σ Q) X.xe s := by
  obtain ⟨o, es, ep, t, ks, ho, hex, hd, pm, he, nd, hb, hf, hri, hl2⟩ := m
  have hlen : es.size = L.length := by rw [← Array.length_toList, he.length, pm.length_eq]
  have hfit : (es.size : Int) < 2 ^ 63 := by
    have z : es.size < 4096 := Nat.lt_of_lt_of_le hb (by unfold scanBound; decide)
    have z2 : (4096 : Int) ≤ 2 ^ 63 := by decide
    omega
  exact call_len_set ho hex hd hf hfit ⟨.int (L.length : Nat), H, I.tok _, ⟨_, by rw [hlen]⟩, h⟩
def askSort (L : List Key) (H : Hp) (Q : VK) : Prop := (∃ ns : List Int, L = ns.map Sum.inl ∧ ∀ p, H p = none → Q (.ref p) (upd H p (.lst ((ns.mergeSort leI).map V.int)))) ∨
  (∃ ns : List Str, L = ns.map Sum.inr ∧ ∀ p, H p = none → Q (.ref p) (upd H p (.lst ((ns.mergeSort leS).map V.str))))
theorem run_sort (hc : X.calm = true) (hu : X.A.units + 70 < cLine) (L : List Key) (pins : List (Addr × Obj)) (s : Shared) (σ : L2.St) (H : Hp) (b : Addr) (Q : VK) (I : L2.Inv X pins σ H s) (m : SetM X.w s.heap b L) (hl : L.length < scanBound) (h : askSort L H Q) : wpAny (model X.prog X.w) X.A (call (.builtin "sorted") [.ref b]) (L2.EP X pins σ Q) X.xe s := by
  have fin : ∀ (s' : Shared) (p : Addr) (out : List Value) (c : Nat) (vs : List V), (∀ b o, s.heap.get? b = some o → s'.heap.get? b = some o) → s'.gens = s.gens → s'.os = s.os → s.heap.objs.size ≤ p → s'.heap.get? p = some (seqObj "list" out.toArray c) → Vals vs out → vs.length ≤ sizeLine →
      Q (.ref p) (upd H p (.lst vs)) → L2.EP X pins σ Q (.ref p) s' := fun s' p out c vs k g o hp hg hv hz q => by
    have hn : H p = none := I.hok.fresh hp
    have J : L2.Inv X pins σ (upd H p (.lst vs)) { s with heap := s'.heap, gens := s'.gens, drawn := s'.drawn, toks := s'.toks } :=
      I.call (ch := []) (Un.laid k hp hn) (I.hok.laid k hp ⟨hz, out, c, hv, hg⟩) (by rw [g]; exact I.bare) (fun _ z => nomatch z)
    have e : s' = { s with heap := s'.heap, gens := s'.gens, drawn := s'.drawn, toks := s'.toks } := by
      cases s'
      cases s
      cases o
      rfl
    rw [e]
    exact ⟨.ref p, _, J, rfl, q⟩
  have small : ∀ n : Nat, n < scanBound → n ≤ sizeLine := fun n h => fits_of_scanBound h
  rcases h with ⟨ns, rfl, q⟩ | ⟨ns, rfl, q⟩
  · rw [List.length_map] at hl
    refine sorted_setM (f := Sum.inl) (enc := PyData.int) m (I.ok.hd hc) hu (fun h v b q => ?_) (fun _ => rfl) (fun L => PySem.W.AllAlike.of fun _ _ => rfl) (fun L => PySem.W.Sortable.others fun _ => ⟨nofun, nofun⟩) (fun a b h => Sum.inl.inj h) fun s' p out c L' k g o hp hg pl he => ?_
    · rcases keyIs_shape q with ⟨i, t, e, rfl⟩ | ⟨i, t, e, rfl⟩
      · cases e
        exact ⟨_, .int _ _⟩
      · cases e
    · rw [PySem.W.dataLe_int (fun b : Int => b)] at he
      have es : L'.mergeSort leI = ns.mergeSort leI := sortI_same pl
      have hv : Vals ((ns.mergeSort leI).map V.int) out := by
        have he : PySem.W.EachIs (fun v (b : Int) => keyIs (Sum.inl b) v = true) out (L'.mergeSort leI) := he
        rw [es] at he
        have key : ∀ {out : List Value} {l : List Int}, PySem.W.EachIs (fun v (b : Int) => keyIs (Sum.inl b) v = true) out l → Vals (l.map V.int) out := by
          intro out l h
          induction h with
          | nil => exact .nil
          | cons h _ ih =>
            rcases keyIs_shape h with ⟨i, t, e, rfl⟩ | ⟨i, t, e, rfl⟩
            · cases e
              exact .cons ⟨_, rfl⟩ ih
            · cases e
        exact key he
      exact fin s' p out c _ k g o hp hg hv (by rw [List.length_map, List.length_mergeSort]; exact small _ hl) (q p (I.hok.fresh hp))
  · rw [List.length_map] at hl
    refine sorted_setM (f := Sum.inr) (enc := PyData.str) m (I.ok.hd hc) hu (fun h v b q => ?_) (fun _ => rfl) (fun L => PySem.W.AllAlike.of fun _ _ => rfl) (fun L => PySem.W.Sortable.others fun _ => ⟨nofun, nofun⟩) (fun a b h => Sum.inr.inj h) fun s' p out c L' k g o hp hg pl he => ?_
    · rcases keyIs_shape q with ⟨i, t, e, rfl⟩ | ⟨i, t, e, rfl⟩
      · cases e
      · cases e
        exact ⟨_, .str _ _⟩
    · rw [PySem.W.dataLe_str (fun b : Str => b)] at he
      have es : L'.mergeSort leS = ns.mergeSort leS := sortS_same pl
      have hv : Vals ((ns.mergeSort leS).map V.str) out := by
        have he : PySem.W.EachIs (fun v (b : Str) => keyIs (Sum.inr b) v = true) out (L'.mergeSort leS) := he
        rw [es] at he
        have key : ∀ {out : List Value} {l : List Str}, PySem.W.EachIs (fun v (b : Str) => keyIs (Sum.inr b) v = true) out l → Vals (l.map V.str) out := by
          intro out l h
          induction h with
          | nil => exact .nil
          | cons h _ ih =>
            rcases keyIs_shape h with ⟨i, t, e, rfl⟩ | ⟨i, t, e, rfl⟩
            · cases e
            · cases e
              exact .cons ⟨_, rfl⟩ ih
        exact key he
      exact fin s' p out c _ k g o hp hg hv (by rw [List.length_map, List.length_mergeSort]; exact small _ hl) (q p (I.hok.fresh hp))
end
/-! ### on data -/
def asStrs : List D → Option (List Str)
  | [] => some []
  | .str b :: r => (asStrs r).map fun bs => b :: bs
  | _ :: _ => none
theorem Reps.strs {K : PySem.W.Frag} {G : Hp} {al : List Addr} : ∀ {vs : List V} {ds : List D} {bs : List Str}, Reps K G al vs ds → asStrs ds = some bs → vs = bs.map V.str ∧ ∀ b ∈ bs, PyData.strOk b = true
  | _, _, _, .nil, h => by
    cases h
    exact ⟨rfl, fun b h => (by cases h)⟩
  | _, d :: ds, bs, .cons h r, e => by
    cases h with
    | str x hx =>
      unfold asStrs at e
      obtain ⟨l, e1, rfl⟩ := map_some e
      obtain ⟨a, b⟩ := Reps.strs r e1
      exact ⟨by rw [a]; rfl, fun y hy => by rcases List.mem_cons.mp hy with rfl | hy; exact hx; exact b y hy⟩
    | _ => cases e
def seqOf : D → Option (List D)
  | .tup xs => some xs
  | .lst xs => some xs
  | .scr xs => some xs
  | _ => none
def dLenSet : Op1 := fun d => match seqOf d with
  | some xs => if xs.length + 1 < scanBound then (match asInts xs, asStrs xs with
    | some ns, _ => some (.int ((once ns).length : Nat), false)
    | none, some ns => some (.int ((once ns).length : Nat), false)
    | _, _ => none) else none
  | none => none
def dSortSet : Op1 := fun d => match seqOf d with
  | some xs => if xs.length + 1 < scanBound then (match asInts xs, asStrs xs with
    | some ns, _ => some (.lst (((once ns).mergeSort leI).map .int), true)
    | none, some ns => some (.lst (((once ns).mergeSort leS).map .str), true)
    | _, _ => none) else none
  | none => none
section
variable {K : PySem.W.Frag}
theorem RepP.seq {W : Wd} {M : List MO} {H : Hp} {v : V} {d : D} {xs : List D} (w : Rw K W M H) (r : RepP K W v d) (h : seqOf d = some xs) : ∃ a vs, v = .ref a ∧ (SqL K H a vs ∨ SqT K H a vs) ∧ RepsW K W vs xs := by
  unfold seqOf at h
  split at h
  · cases h
    obtain ⟨a, vs, rfl, h1, r1⟩ := r.tup w
    exact ⟨a, vs, rfl, .inr h1, r1⟩
  · cases h
    obtain ⟨a, vs, rfl, h1, r1⟩ := r.lst w
    exact ⟨a, vs, rfl, .inl (.inl (.inl h1)), r1⟩
  · cases h
    obtain ⟨a, vs, rfl, h1, r1⟩ := r.scr w
    exact ⟨a, vs, rfl, .inl h1, r1⟩
  · cases h
theorem map_kVi (ns : List Int) : (ns.map Sum.inl).map kV = ns.map V.int := by
  rw [List.map_map]
  rfl
theorem map_kVs (ns : List Str) : (ns.map Sum.inr).map kV = ns.map V.str := by
  rw [List.map_map]
  rfl
theorem ok_lenSet : Ok1 K (rSetM K askLen) dLenSet := by
  intro W M H x d res Q w rx h q
  unfold dLenSet at h
  split at h
  · rename_i xs hs
    obtain ⟨a, vs, rfl, hv, r⟩ := rx.seq w hs
    split at h
    · rename_i hl
      split at h
      · rename_i ns hi
        cases h
        have e := Reps.ints r hi
        have e2 := r.length
        subst e
        rw [List.length_map] at e2
        refine ⟨a, ns.map Sum.inl, rfl, by rw [map_kVi]; exact hv, by rw [List.length_map]; omega, ?_⟩
        unfold askLen
        rw [once_map fun a b h => Sum.inl.inj h, List.length_map]
        exact done_int w q
      · rename_i ns _ hi
        cases h
        obtain ⟨e, _⟩ := Reps.strs r hi
        have e2 := r.length
        subst e
        rw [List.length_map] at e2
        refine ⟨a, ns.map Sum.inr, rfl, by rw [map_kVs]; exact hv, by rw [List.length_map]; omega, ?_⟩
        unfold askLen
        rw [once_map fun a b h => Sum.inr.inj h, List.length_map]
        exact done_int w q
      · cases h
    · cases h
  · cases h
theorem once_mem {α : Type} [DecidableEq α] (ks : List α) : ∀ k ∈ once ks, k ∈ ks := by
  have key : ∀ (ks L : List α) (k : α), k ∈ ks.foldl addO L → k ∈ L ∨ k ∈ ks := fun ks => by
    induction ks with
    | nil => exact fun L k h => .inl h
    | cons j ks ih =>
      intro L k h
      rcases ih (addO L j) k h with h | h
      · unfold addO at h
        split at h
        · exact .inl h
        · rcases List.mem_append.mp h with h | h
          · exact .inl h
          · rw [List.mem_singleton] at h
            rw [h]
            exact .inr (List.mem_cons_self ..)
      · exact .inr (List.mem_cons_of_mem _ h)
  intro k h
  rcases key ks [] k h with h | h
  · cases h
  · exact h
theorem Reps.ofInts {G : Hp} {al : List Addr} : ∀ ns : List Int, Reps K G al (ns.map V.int) (ns.map D.int)
  | [] => .nil
  | n :: ns => .cons (.int n) (Reps.ofInts ns)
theorem Reps.ofStrs {G : Hp} {al : List Addr} : ∀ {ns : List Str}, (∀ n ∈ ns, PyData.strOk n = true) → Reps K G al (ns.map V.str) (ns.map D.str)
  | [], _ => .nil
  | n :: ns, h => .cons (.str n (h n (List.mem_cons_self ..))) (Reps.ofStrs fun m hm => h m (List.mem_cons_of_mem _ hm))
theorem ok_sortSet : Ok1 K (rSetM K askSort) dSortSet := by
  intro W M H x d res Q w rx h q
  unfold dSortSet at h
  split at h
  · rename_i xs hs
    obtain ⟨a, vs, rfl, hv, r⟩ := rx.seq w hs
    split at h
    · rename_i hl
      split at h
      · rename_i ns hi
        cases h
        have e := Reps.ints r hi
        have e2 := r.length
        subst e
        rw [List.length_map] at e2
        refine ⟨a, ns.map Sum.inl, rfl, by rw [map_kVi]; exact hv, by rw [List.length_map]; omega, .inl ⟨once ns, once_map (fun a b h => Sum.inl.inj h) ns, fun p hp => ?_⟩⟩
        obtain ⟨w3, r3⟩ := w.newL hp (.lst (Reps.ofInts _))
        exact q _ _ _ (Evo.refl W) w3 r3
      · rename_i ns _ hi
        cases h
        obtain ⟨e, ho⟩ := Reps.strs r hi
        have e2 := r.length
        subst e
        rw [List.length_map] at e2
        refine ⟨a, ns.map Sum.inr, rfl, by rw [map_kVs]; exact hv, by rw [List.length_map]; omega, .inr ⟨once ns, once_map (fun a b h => Sum.inr.inj h) ns, fun p hp => ?_⟩⟩
        obtain ⟨w3, r3⟩ := w.newL hp (.lst (Reps.ofStrs fun n hn => ho n (once_mem ns n (List.mem_mergeSort.mp hn))))
        exact q _ _ _ (Evo.refl W) w3 r3
      · cases h
    · cases h
  · cases h
end
section
variable {X : Cx} {a : Expr} {p p2 q pos : Pos} {f : EP}
theorem pLenSet (hc : X.calm = true) (hg : Gl X "len") (hm : X.mg "len" = none) (hg2 : Gl X "set") (hm2 : X.mg "set" = none) (ha : PE X a (tP X.K f)) (hp : plainE a = true) : PE X (.Call (.Name "len" p) [.Call (.Name "set" p2) [a] [] q] [] pos) (tE X.K (eUn dLenSet f)) :=
  PE.imp (pe_ofSet hc hg hm boot_len (by decide) (by decide) hg2 hm2 ha hp run_len) fun _ _ _ h => tE_un ok_lenSet h
theorem pSortSet (hc : X.calm = true) (hu : X.A.units + 70 < cLine) (hg : Gl X "sorted") (hm : X.mg "sorted" = none) (hg2 : Gl X "set") (hm2 : X.mg "set" = none) (ha : PE X a (tP X.K f)) (hp : plainE a = true) : PE X (.Call (.Name "sorted" p) [.Call (.Name "set" p2) [a] [] q] [] pos) (tE X.K (eUn dSortSet f)) :=
  PE.imp (pe_ofSet hc hg hm (by decide +kernel) (by decide) (by decide) hg2 hm2 ha hp (run_sort hc hu)) fun _ _ _ h => tE_un ok_sortSet h
end
end R

set_option Elab.async false
set_option linter.all false
set_option maxRecDepth 100000
set_option maxHeartbeats 4000000
/-! R17: enumerate and zip of lists and tuples, mixed -/
namespace R
open PySem PySem.Spec PySem.Calls PyProof.Rows L2
/-! a list (true) or a tuple (false) -/
def SqB (K : PySem.W.Frag) : Bool → Hp → Addr → List V → Prop
  | true => SqL K
  | false => SqT K
def ItB : Bool → Heap → Addr → Addr → Nat → Prop
  | true => Heap.IsListIter
  | false => Heap.IsTupleIter
def IsB : Bool → Heap → Addr → Array Value → Prop
  | true => Heap.IsList
  | false => Heap.IsTuple
def itO : Bool → Addr → Obj
  | true, l => { cls := .type "list_iterator", data := .fields #[.ref l, .int 0 0] }
  | false, l => { cls := .type "tuple_iterator", data := .fields #[.ref l, .int 0 0] }
theorem draws_b {P : Program} {w : World} {A : Around} (hh : A.handled = none) (b : Bool) (it l : Addr) (hne : l ≠ it) (items : Array Value) : Draws P w A it [it, l] items.size (fun i v => items[i]? = some v) (fun i h => ItB b h it l i ∧ IsB b h l items) := by
  cases b
  · exact Draws.tuple hh it l hne items
  · exact Draws.list hh it l hne items
theorem begins_b (b : Bool) (l : Addr) (items : Array Value) : Begins (.ref l) (itO b l) fun h => IsB b h l items := by
  cases b
  · exact begins_tuple l items
  · exact begins_list l items
theorem itB_new {b : Bool} {h : Heap} {it l : Addr} (e : h.get? it = some (itO b l)) : ItB b h it l 0 := by
  cases b <;> exact ⟨_, e, rfl, rfl⟩
theorem itB_at {b : Bool} {h h' : Heap} {it l : Addr} {i : Nat} (x : ItB b h it l i) (e : ∀ o, h.get? it = some o → h'.get? it = some o) : ItB b h' it l i := by
  cases b
  · exact Heap.IsTupleIter.at x e
  · exact Heap.IsListIter.at x e
theorem itB_ob {b : Bool} {h : Heap} {it l : Addr} {i : Nat} (x : ItB b h it l i) : ∃ o, h.get? it = some o ∧ ∀ v, o.data ≠ .cell v := by
  cases b
  · obtain ⟨o, e, _, d⟩ := x
    exact ⟨o, e, fun v q => by rw [d] at q; cases q⟩
  · obtain ⟨o, e, _, d⟩ := x
    exact ⟨o, e, fun v q => by rw [d] at q; cases q⟩
section
variable {X : Cx} {pins : List (Addr × Obj)} {σ : L2.St} {H : Hp} {s : Shared}
theorem Inv_b (I : L2.Inv X pins σ H s) {b : Bool} {a : Addr} {xs : List V} (h : SqB X.K b H a xs) : ∃ its, Vals xs its ∧ IsB b s.heap a its.toArray ∧ a < s.heap.objs.size ∧ xs.length ≤ sizeLine := by
  cases b
  · obtain ⟨its, rv, p, hz⟩ := I.tuple h
    have p' : s.heap.IsTuple a its.toArray := p
    obtain ⟨o, ho, _⟩ := id p'
    exact ⟨its, rv, p', Heap.lt_size ho, hz⟩
  · obtain ⟨its, rv, p, hz⟩ := I.list h
    obtain ⟨o, ho, _⟩ := id p.isList
    exact ⟨its, rv, p.isList, Heap.lt_size ho, hz⟩
theorem Inv_binj (I : L2.Inv X pins σ H s) {b : Bool} {a : Addr} {xs ys : List V} (h : SqB X.K b H a xs) (h2 : SqB X.K b H a ys) : xs = ys := by
  cases b
  · exact I.tuple_inj h h2
  · exact I.list_inj h h2
end
/-! ### enumerate -/
def IteB (K : PySem.W.Frag) (b : Bool) (a : Addr) : It :=
  ⟨fun i H => ∃ (xs : List V) (x : V), SqB K b H a xs ∧ xs[i]? = some x, fun i H v H' => ∃ T x o, v = .ref T ∧ H T = none ∧ o.dict = none ∧ H' = upd H T (.frz o (.tup [.int (i : Nat), x])) ∧ ∀ xs, SqB K b H a xs → xs[i]? = some x, fun i H => ∃ xs : List V, SqB K b H a xs ∧ xs.length = i⟩
theorem turn_enumB {P : Program} {w : World} {K : PySem.W.Frag} {elts : List Expr} {kk : Nat} {tpos : Pos} (b : Bool) (a e it : Addr) :
    Turn P w K (.Tuple elts kk tpos) (IteB K b a) [e, it] e (fun i h => (∃ old, IsEnum h e it ((i : Nat) : Int) old) ∧ ItB b h it a i ∧ e ≠ it ∧ a ≠ it ∧ e ≠ a) where
  mem := by simp
  obj := fun i h st c hc => by
    obtain ⟨⟨old, he⟩, hi, _⟩ := st
    have e' : c = e ∨ c = it := by simpa using hc
    rcases e' with z | z
    · rw [z]
      exact ⟨_, he, fun v q => nomatch q⟩
    · rw [z]
      exact itB_ob hi
  keep := fun i h h' st k => let ⟨⟨old, he⟩, hi, r⟩ := st; ⟨⟨old, k e (by simp) _ he⟩, itB_at hi fun o q => k it (by simp) o q, r⟩
  item := by
    intro X hP hw hK hc i pins s σ H E I hf st hg
    subst hP hw hK
    obtain ⟨⟨old, he⟩, hit, h1, h2, h3⟩ := st
    obtain ⟨xs, x, hq, hx⟩ := hg
    obtain ⟨its, rv, p, _, hz⟩ := Inv_b I hq
    obtain ⟨u, hu, ru⟩ := rv.get hx
    have hil : i < its.toArray.size := by
      rw [List.size_toArray]
      exact (List.getElem?_eq_some_iff.mp hu).1
    have hel : e < s.heap.objs.size := Heap.lt_size he
    obtain ⟨oi, hoi, _⟩ := itB_ob hit
    have hitl : it < s.heap.objs.size := Heap.lt_size hoi
    have D := draws_b (P := X.prog) (w := X.w) (A := X.A.in1) (I.ok.hd hc) b it a h2 its.toArray
    refine wpAny_pyNext_enum_itemC D he ⟨hit, p⟩ hil h1 (by simp only [List.mem_cons, List.not_mem_nil, or_false, not_or]; exact ⟨h1, h3⟩) fun y h' tk hP ho hst hT hsz hk => ?_
    have ey : y = u := by
      rw [List.getElem?_toArray, hu] at hP
      exact (Option.some.inj hP).symm
    subst ey
    refine ⟨_, rfl, wpAny_letOwnedTupleGo_enum (s := { s with heap := h', toks := tk + 1 }) ho fun h'' he' sb => ?_⟩
    have hT2 : h''.get? s.heap.objs.size = some { cls := .type "tuple", data := .seq #[.int i tk, y] } := (sb.2 _ (Nat.ne_of_gt hel)).trans hT
    have new : ObjOk X.prog X.w (upd H s.heap.objs.size (.frz { cls := .type "tuple", data := .seq #[.int i tk, y] } (.tup [.int (i : Nat), x]))) h'' s.heap.objs.size (.frz { cls := .type "tuple", data := .seq #[.int i tk, y] } (.tup [.int (i : Nat), x])) :=
      ⟨hT2, by show 2 ≤ sizeLine; decide, [.int i tk, y], .cons ⟨_, rfl⟩ (.cons ru .nil), ⟨_, hT2, rfl, _, rfl⟩⟩
    have I1 : L2.Inv X pins σ (upd H s.heap.objs.size (.frz { cls := .type "tuple", data := .seq #[.int i tk, y] } (.tup [.int (i : Nat), x]))) { s with heap := h'', toks := tk + 1 } :=
      I.turnedNew (ch := [e, it]) (fun c ob hb q => (sb.2 c (fun z => hb (by simp [z]))).trans (hk c ob (fun z => hb (by simp [z])) (fun z => hb (by simp [z])) q)) hf (Nat.le_refl _) new
    refine ⟨.ref s.heap.objs.size, _, I1, rfl, ⟨_, x, _, rfl, I.hok.fresh (Nat.le_refl _), rfl, rfl, fun ys hy => by rw [Inv_binj I hy hq]; exact hx⟩, ⟨⟨y, ?_⟩, itB_at hst.1 fun o q => (sb.2 it (Ne.symm h1)).trans q, h1, h2, h3⟩, fun c hc' => ?_⟩
    · have e1 : ((i + 1 : Nat) : Int) = (i : Int) + 1 := by omega
      rw [e1]
      exact he'
    · have hb' : c < s.heap.objs.size := by
        have e' : c = e ∨ c = it := by simpa using hc'
        rcases e' with z | z
        · rw [z]; exact hel
        · rw [z]; exact hitl
      rw [upd_ne (Nat.ne_of_lt hb')]
      exact (hf c hc').1
  done := by
    intro X hP hw hK hc i pins s σ H E I hf st hg
    subst hP hw hK
    obtain ⟨⟨old, he⟩, hit, h1, h2, h3⟩ := st
    obtain ⟨xs, hq, hx⟩ := hg
    obtain ⟨its, rv, p, _, hz⟩ := Inv_b I hq
    have hl := rv.length
    have D := draws_b (P := X.prog) (w := X.w) (A := X.A.in1) (I.ok.hd hc) b it a h2 its.toArray
    have W := WalksT.enumFrom (prog := X.prog) (w := X.w) (A := X.A) 0 D e h1 (by simp only [List.mem_cons, List.not_mem_nil, or_false, not_or]; exact ⟨h1, h3⟩) (by simp)
    have hi : i = its.toArray.size := by rw [List.size_toArray]; omega
    have e0 : (0 : Int) + ((its.toArray.size : Nat) : Int) = ((i : Nat) : Int) := by omega
    refine W.done s _ E ⟨⟨old, by rw [e0]; exact he⟩, by rw [← hi]; exact hit, p⟩ fun h' tk hk => ⟨rfl, I.turnedL (t' := tk) (ch := [e, it]) (fun c o hb q => hk c o hb q) hf⟩
  self := fun A i s Q E st h => let ⟨⟨_, he⟩, _⟩ := st; wpAny_pyIter_enum he h
set_option maxHeartbeats 1000000 in
theorem meets_enum1 {v : Value} {o : Obj} {H : Heap → Prop} (B : Begins v o H) :
    Meets (Builtin.«enumerate.__new__» ⟨[.type "enumerate", v], []⟩) (fun _ R s => H s.heap ∧
      R (.ok (.ret (.ref (s.heap.push o).objs.size))) { s with heap := (s.heap.push o).push { cls := .type "enumerate", data := .fields #[.none, .bool false, .ref s.heap.objs.size, rawInt 0, .none, .none] } }) :=
  .of_wp fun prog w A R s h => by
    obtain ⟨hp, g, d, tk, os⟩ := s
    obtain ⟨h1, h⟩ := h
    have hsub := sub_enumerate
    have q1 : ∀ {A' : Around} {E : Value → Shared → Prop} {Q : Value → Shared → Prop}, Q (.ref hp.objs.size) ⟨hp.push o, g, d, tk, os⟩ → wpAny (model prog w) A' (pyIter v) Q E ⟨hp, g, d, tk, os⟩ :=
      fun q => B.iter prog w _ _ ⟨hp, g, d, tk, os⟩ _ h1 q
    wp_walk using q1
    refine wpAny_stack_any fun st => wpAny_pure ?_
    split
    · rename_i c _ _ _ _ _
      cases (c == Value.type "enumerate")
      · wp_walk using q1
        exact ⟨_, rfl, h⟩
      · wp_walk using q1
        exact ⟨_, rfl, h⟩
    · wp_walk using q1
      exact ⟨_, rfl, h⟩
theorem call_enum1 {P : Program} {w : World} {A : Around} {E : Value → Shared → Prop} {s : Shared} {v : Value} {o : Obj} {H : Heap → Prop} {Q : Value → Shared → Prop} (B : Begins v o H) (h1 : H s.heap)
    (h : ∀ h', IsEnum h' (s.heap.objs.size + 1) s.heap.objs.size 0 .none → h'.get? s.heap.objs.size = some o → (∀ b o, s.heap.get? b = some o → h'.get? b = some o) → Q (.ref (s.heap.objs.size + 1)) { s with heap := h' }) :
    wpAny (model P w) A (call (.type "enumerate") [v]) Q E s := by
  refine callType_new F.called_enumerate (by decide) (F.typeCall_enumerate_1 _) (F.newCall_enumerate_1 _) (fun obj => F.args_object_init_2 obj _) F.entry_enumerate_new (meets_enum1 B) ⟨h1, ?_⟩
  have hz : (s.heap.push o).objs.size = s.heap.objs.size + 1 := Heap.size_push ..
  show _ ∧ _
  rw [hz]
  have he : IsEnum ((s.heap.push o).push { cls := .type "enumerate", data := .fields #[.none, .bool false, .ref s.heap.objs.size, rawInt 0, .none, .none] }) (s.heap.objs.size + 1) s.heap.objs.size 0 .none := by
    have := Heap.get?_push_size (s.heap.push o) (o := { cls := .type "enumerate", data := .fields #[.none, .bool false, .ref s.heap.objs.size, rawInt 0, .none, .none] }) rfl
    rw [hz] at this
    exact this
  exact ⟨⟨_, he, rfl⟩, h _ he (Heap.get?_push_of_some _ (Heap.get?_push_size _ B.free)) fun b o x => Heap.get?_push_of_some _ (Heap.get?_push_of_some _ x)⟩
def iEnumX (K : PySem.W.Frag) (tl : TE) : TI := fun σ H R => tl σ H fun x H1 => ∃ a b xs, x = .ref a ∧ SqB K b H1 a xs ∧ R (IteB K b a) H1
theorem pi_enumX {X : Cx} {e : Expr} {te : TE} {p pos tpos : Pos} {elts : List Expr} {kk : Nat} (hg : Gl X "enumerate") (hm : X.mg "enumerate" = none) (he : PE X e te) (hp : plainE e = true) :
    PI X (.Tuple elts kk tpos) (.Call (.Name "enumerate" p) [e] [] pos) (iEnumX X.K te) := by
  refine ⟨fun pins s σ H R I h => ?_⟩
  refine wpAny_Call_Name_kw (ld_blt I hg hm boot_enumerate (PyProof.Rows.callWith_type1 (PyProof.Rows.args_cons (thn (he.run pins s σ H _ I h) fun v s1 ⟨x, H1, I1, r1, q1⟩ => PyProof.Rows.args_nil ?_) (star_cons hp)) (star_cons hp) rfl))
  obtain ⟨a, b, xs, rfl, hq, q⟩ := q1
  cases r1
  obtain ⟨its, rv, p', hlt, hz⟩ := Inv_b I1 hq
  refine call_enum1 (begins_b b a its.toArray) p' fun h' he' hit hk => wpAny_pyIter_enum he' ?_
  have I2 : L2.Inv X pins σ H1 { s1 with heap := h' } := I1.kept (t' := s1.toks) hk
  refine ⟨s1.heap.objs.size + 1, [s1.heap.objs.size + 1, s1.heap.objs.size], _, _, H1, rfl, I2, turn_enumB b a (s1.heap.objs.size + 1) s1.heap.objs.size, ⟨⟨.none, he'⟩, itB_new hit, Nat.succ_ne_self _, Nat.ne_of_lt hlt, Nat.ne_of_gt (Nat.lt_succ_of_lt hlt)⟩, fun c hb => ?_, q⟩
  have e' : c = s1.heap.objs.size + 1 ∨ c = s1.heap.objs.size := by simpa using hb
  have hle : s1.heap.objs.size ≤ c := by
    rcases e' with z | z
    · rw [z]; exact Nat.le_add_right _ _
    · rw [z]; exact Nat.le_refl _
  exact I1.fpOk hle (I1.hok.fresh hle)
/-! ### zip -/
def ItzB (K : PySem.W.Frag) (b1 b2 : Bool) (a c : Addr) : It :=
  ⟨fun i H => ∃ (xs ys : List V) (x y : V), SqB K b1 H a xs ∧ SqB K b2 H c ys ∧ xs[i]? = some x ∧ ys[i]? = some y,
    fun i H v H' => ∃ T x y o, v = .ref T ∧ H T = none ∧ o.dict = none ∧ H' = upd H T (.frz o (.tup [x, y])) ∧ (∀ xs, SqB K b1 H a xs → xs[i]? = some x) ∧ ∀ ys, SqB K b2 H c ys → ys[i]? = some y,
    fun i H => ∃ xs ys : List V, SqB K b1 H a xs ∧ SqB K b2 H c ys ∧ min xs.length ys.length = i⟩
structure ZAp (z TI TO i1 i2 a c : Addr) : Prop where
  sep : ZipSep2 z TI TO i1 i2 [i1, a] [i2, c]
  n1 : a ≠ i1
  n2 : c ≠ i2
theorem turn_zipB {P : Program} {w : World} {K : PySem.W.Frag} {elts : List Expr} {kk : Nat} {tpos : Pos} {b1 b2 : Bool} {a c z TI TO i1 i2 : Addr} (S : ZAp z TI TO i1 i2 a c) :
    Turn P w K (.Tuple elts kk tpos) (ItzB K b1 b2 a c) [z, TI, TO, i1, i2] z (fun i h => IsZip h z TI TO .none ∧ IsTupOf2 h TI (.ref i1) (.ref i2) ∧ (∃ x y, IsTupOf2 h TO x y) ∧ ItB b1 h i1 a i ∧ ItB b2 h i2 c i) where
  mem := by simp
  obj := fun i h st d hd => by
    obtain ⟨hz, hTI, ⟨x, y, hTO⟩, h1, h2⟩ := st
    have e' : d = z ∨ d = TI ∨ d = TO ∨ d = i1 ∨ d = i2 := by simpa using hd
    rcases e' with q | q | q | q | q
    · rw [q]; exact ⟨_, hz, fun v q => nomatch q⟩
    · rw [q]; exact ⟨_, hTI, fun v q => nomatch q⟩
    · rw [q]; exact ⟨_, hTO, fun v q => nomatch q⟩
    · rw [q]; exact itB_ob h1
    · rw [q]; exact itB_ob h2
  keep := fun i h h' st k => by
    obtain ⟨hz, hTI, ⟨x, y, hTO⟩, h1, h2⟩ := st
    exact ⟨k z (by simp) _ hz, k TI (by simp) _ hTI, ⟨x, y, k TO (by simp) _ hTO⟩, itB_at h1 fun o q => k i1 (by simp) o q, itB_at h2 fun o q => k i2 (by simp) o q⟩
  item := by
    intro X hP hw hK hc i pins s σ H E I hf st hg
    subst hP hw hK
    obtain ⟨hz, hTI, ⟨x0, y0, hTO⟩, h1, h2⟩ := st
    obtain ⟨xs, ys, x, y, hqx, hqy, hx, hy⟩ := hg
    obtain ⟨its, rv, p, _, _⟩ := Inv_b I hqx
    obtain ⟨its2, rv2, p2, _, _⟩ := Inv_b I hqy
    obtain ⟨u, hu, ru⟩ := rv.get hx
    obtain ⟨u2, hu2, ru2⟩ := rv2.get hy
    have hzl : z < s.heap.objs.size := Heap.lt_size hz
    have hi1 : i < its.toArray.size := by rw [List.size_toArray]; exact (List.getElem?_eq_some_iff.mp hu).1
    have hi2 : i < its2.toArray.size := by rw [List.size_toArray]; exact (List.getElem?_eq_some_iff.mp hu2).1
    have D1 := draws_b (P := X.prog) (w := X.w) (A := X.A.in1) (I.ok.hd hc) b1 i1 a S.n1 its.toArray
    have D2 := draws_b (P := X.prog) (w := X.w) (A := X.A.in1) (I.ok.hd hc) b2 i2 c S.n2 its2.toArray
    refine wpAny_pyNext_zipD2_item S.sep D1 D2 hz hTI hTO ⟨h1, p⟩ ⟨h2, p2⟩ hi1 hi2 fun y1 y2 h' tk e1 e2 z' TO' st1 st2 hT hsz hk => ?_
    have ey : y1 = u := by
      rw [List.getElem?_toArray, hu] at e1
      exact (Option.some.inj e1).symm
    have ey2 : y2 = u2 := by
      rw [List.getElem?_toArray, hu2] at e2
      exact (Option.some.inj e2).symm
    subst ey ey2
    refine ⟨_, rfl, wpAny_letOwnedTupleGo_zip (s := { s with heap := h', toks := tk }) z' fun h'' z'' sb => ?_⟩
    have hT2 : h''.get? s.heap.objs.size = some { cls := .type "tuple", data := .seq #[y1, y2] } := (sb.2 _ (Nat.ne_of_gt hzl)).trans hT
    have new : ObjOk X.prog X.w (upd H s.heap.objs.size (.frz { cls := .type "tuple", data := .seq #[y1, y2] } (.tup [x, y]))) h'' s.heap.objs.size (.frz { cls := .type "tuple", data := .seq #[y1, y2] } (.tup [x, y])) :=
      ⟨hT2, by show 2 ≤ sizeLine; decide, [y1, y2], .cons ru (.cons ru2 .nil), ⟨_, hT2, rfl, _, rfl⟩⟩
    have I1 : L2.Inv X pins σ (upd H s.heap.objs.size (.frz { cls := .type "tuple", data := .seq #[y1, y2] } (.tup [x, y]))) { s with heap := h'', toks := tk } :=
      I.turnedNew (t' := tk) (ch := [z, TI, TO, i1, i2]) (fun d o hb q => (sb.2 d (fun q' => hb (by simp [q']))).trans (hk d o (fun q' => hb (by simp [q'])) (fun q' => hb (by simp [q'])) (fun q' => hb (by simp [q'])) (fun q' => hb (by simp [q'])) q)) hf (Nat.le_refl _) new
    refine ⟨.ref s.heap.objs.size, _, I1, rfl, ⟨_, x, y, _, rfl, I.hok.fresh (Nat.le_refl _), rfl, rfl, fun l hl => by rw [Inv_binj I hl hqx]; exact hx, fun l hl => by rw [Inv_binj I hl hqy]; exact hy⟩, ⟨z'', ?_, ⟨y1, y2, ?_⟩, ?_, ?_⟩, fun d hcm => ?_⟩
    · exact (sb.2 _ S.sep.TIz).trans (hk _ _ S.sep.TIz S.sep.TITO S.sep.TIi1 S.sep.TIi2 hTI)
    · exact (sb.2 _ S.sep.TOz).trans TO'
    · exact itB_at st1.1 fun o q => (sb.2 _ (Ne.symm S.sep.zi1)).trans q
    · exact itB_at st2.1 fun o q => (sb.2 _ (Ne.symm S.sep.zi2)).trans q
    · have hlt : d < s.heap.objs.size := by
        have e' : d = z ∨ d = TI ∨ d = TO ∨ d = i1 ∨ d = i2 := by simpa using hcm
        rcases e' with q | q | q | q | q
        · rw [q]; exact hzl
        · rw [q]; exact Heap.lt_size hTI
        · rw [q]; exact Heap.lt_size hTO
        · rw [q]; obtain ⟨_, e1, _⟩ := itB_ob h1; exact Heap.lt_size e1
        · rw [q]; obtain ⟨_, e1, _⟩ := itB_ob h2; exact Heap.lt_size e1
      rw [upd_ne (Nat.ne_of_lt hlt)]
      exact (hf d hcm).1
  done := by
    intro X hP hw hK hc i pins s σ H E I hf st hg
    subst hP hw hK
    obtain ⟨hz, hTI, ⟨x0, y0, hTO⟩, h1, h2⟩ := st
    obtain ⟨xs, ys, hqx, hqy, hend⟩ := hg
    obtain ⟨its, rv, p, _, _⟩ := Inv_b I hqx
    obtain ⟨its2, rv2, p2, _, _⟩ := Inv_b I hqy
    have l1 := rv.length
    have l2 := rv2.length
    have D1 := draws_b (P := X.prog) (w := X.w) (A := X.A.in1) (I.ok.hd hc) b1 i1 a S.n1 its.toArray
    have D2 := draws_b (P := X.prog) (w := X.w) (A := X.A.in1) (I.ok.hd hc) b2 i2 c S.n2 its2.toArray
    have z1 : its.toArray.size = its.length := List.size_toArray
    have z2 : its2.toArray.size = its2.length := List.size_toArray
    exact wpAny_pyNext_zipD2_end S.sep D1 D2 hz hTI hTO ⟨h1, p⟩ ⟨h2, p2⟩ (by omega) (by omega) (by omega) fun h' tk hk => ⟨rfl, I.turnedL (t' := tk) (ch := [z, TI, TO, i1, i2]) (fun d o hb q =>
      hk d o (fun q' => hb (by simp [q'])) (fun q' => hb (by simp [q'])) (fun q' => hb (by simp [q'])) (fun q' => hb (by simp [q'])) q) hf⟩
  self := fun A i s Q E st h => wpAny_pyIter_zip st.1 h
def iZipX (K : PySem.W.Frag) (ta : TA) : TI := fun σ H R => ta σ H fun vs H1 => ∃ a c b1 b2 xs ys, vs = [.ref a, .ref c] ∧ SqB K b1 H1 a xs ∧ SqB K b2 H1 c ys ∧ R (ItzB K b1 b2 a c) H1
theorem pi_zipX {X : Cx} {e e2 : Expr} {ta : TA} {p pos tpos : Pos} {elts : List Expr} {kk : Nat} (hg : Gl X "zip") (hm : X.mg "zip" = none) (ha : PA X [e, e2] ta) (hp : plainE e = true) (hp2 : plainE e2 = true) :
    PI X (.Tuple elts kk tpos) (.Call (.Name "zip" p) [e, e2] [] pos) (iZipX X.K ta) := by
  refine ⟨fun pins s σ H R I h => ?_⟩
  refine wpAny_Call_Name_kw (ld_blt I hg hm PyProof.Rows.boot_zip (PyProof.Rows.callWith_type1 (thn (ha.run pos pins s σ H _ I h) fun us s1 ⟨vs, H1, I1, r1, q1⟩ => ?_) (star_cons hp) (back_any (by rw [List.all_cons, hp2]; rfl))))
  obtain ⟨a, c, b1, b2, xs, ys, rfl, hqx, hqy, q⟩ := q1
  cases r1 with
  | cons r rr =>
    cases rr with
    | cons r' rr =>
      cases rr
      cases r
      cases r'
      obtain ⟨its, rv, p1, l1, _⟩ := Inv_b I1 hqx
      obtain ⟨its2, rv2, p2, l2, _⟩ := Inv_b I1 hqy
      refine zip_begins2 (begins_b b1 a its.toArray) (begins_b b2 c its2.toArray) p1 p2 fun h' hz hTI hTO h1 h2 hsz hk => wpAny_pyIter_zip hz ?_
      have I2 : L2.Inv X pins σ H1 { s1 with heap := h' } := I1.kept (t' := s1.toks) hk
      refine ⟨s1.heap.objs.size + 4, [s1.heap.objs.size + 4, s1.heap.objs.size + 2, s1.heap.objs.size + 3, s1.heap.objs.size, s1.heap.objs.size + 1], _, _, H1, rfl, I2,
        turn_zipB ⟨zip_sep2 (fp1 := [a]) (fp2 := [c]) (fun b hb => by rw [List.mem_singleton.mp hb]; exact l1) (fun b hb => by rw [List.mem_singleton.mp hb]; exact l2), Nat.ne_of_lt l1, Nat.ne_of_lt (Nat.lt_succ_of_lt l2)⟩,
        ⟨hz, hTI, ⟨_, _, hTO⟩, itB_new h1, itB_new h2⟩, fun d hcm => ?_, q⟩
      have e' : d = s1.heap.objs.size + 4 ∨ d = s1.heap.objs.size + 2 ∨ d = s1.heap.objs.size + 3 ∨ d = s1.heap.objs.size ∨ d = s1.heap.objs.size + 1 := by simpa using hcm
      have hle : s1.heap.objs.size ≤ d := by
        rcases e' with z | z | z | z | z
        · rw [z]; exact Nat.le_add_right _ _
        · rw [z]; exact Nat.le_add_right _ _
        · rw [z]; exact Nat.le_add_right _ _
        · rw [z]; exact Nat.le_refl _
        · rw [z]; exact Nat.le_add_right _ _
      exact I1.fpOk hle (I1.hok.fresh hle)
end R

set_option Elab.async false
set_option linter.all false
set_option maxRecDepth 100000
set_option maxHeartbeats 2000000
/-! R18: enumerate, zip, on data; living lists; places -/
namespace R
open PySem PySem.Spec PySem.Calls PyProof.Rows L2
def kindB : D → Bool
  | .tup _ => false
  | _ => true
theorem RepP.seqB {K : PySem.W.Frag} {W : Wd} {M : List MO} {H : Hp} {v : V} {d : D} {ds : List D} (w : Rw K W M H) (r : RepP K W v d) (h : seqItems d = some ds) : ∃ a vs, v = .ref a ∧ SqB K (kindB d) H a vs ∧ RepsW K W vs ds := by
  unfold seqItems at h
  split at h
  · cases h
    obtain ⟨a, vs, rfl, h1, r1⟩ := r.tup w
    exact ⟨a, vs, rfl, h1, r1⟩
  · cases h
    obtain ⟨a, vs, rfl, h1, r1⟩ := r.lst w
    exact ⟨a, vs, rfl, .inl (.inl h1), r1⟩
  · cases h
    obtain ⟨a, vs, rfl, h1, r1⟩ := r.scr w
    exact ⟨a, vs, rfl, h1, r1⟩
  · cases h
/-! ### enumerate -/
def enumD (ds : List D) : List D := ds.mapIdx fun i d => .tup [.int (i : Nat), d]
def iEnumD (f : EP) : EI := fun env M => match f env M with
  | some (d, M1) => (seqItems d).map fun xs => (enumD xs, M1)
  | none => none
theorem enumD_get {ds : List D} {i : Nat} {d : D} (h : (enumD ds)[i]? = some d) : ∃ x, ds[i]? = some x ∧ d = .tup [.int (i : Nat), x] := by
  unfold enumD at h
  rw [List.getElem?_mapIdx] at h
  obtain ⟨x, h1, h2⟩ := map_some h
  exact ⟨x, h1, h2.symm⟩
theorem walk_enum {K : PySem.W.Frag} {W : Wd} {M : List MO} {H : Hp} {a : Addr} {b : Bool} {vs : List V} {ds : List D} (i : Nat) (w : Rw K W M H) (h : SqB K b H a vs) (r : RepsW K W vs ds) :
    ((enumD ds).length = i → (IteB K b a).stop i H) ∧ (∀ d, (enumD ds)[i]? = some d → (IteB K b a).go i H ∧ ∀ x H', (IteB K b a).yld i H x H' → ∃ W', Evo W W' ∧ Rw K W' M H' ∧ RepW K W' x d) := by
  refine ⟨fun hl => ⟨vs, h, ?_⟩, fun d hd => ?_⟩
  · rw [r.length]
    simpa [enumD] using hl
  · obtain ⟨y, hy, rfl⟩ := enumD_get hd
    obtain ⟨v, hv, rv⟩ := r.get hy
    refine ⟨⟨vs, v, h, hv⟩, fun x H' ⟨T, x', o, ex, hT, ho, eH, hx⟩ => ?_⟩
    subst ex eH
    have e := hx vs h
    rw [hv] at e
    cases e
    exact w.newT hT o ho (.cons (.int _) (.cons rv .nil))
section
variable {X : Cx} {e : Expr} {f : EP} {p pos tpos : Pos} {elts : List Expr} {kk : Nat}
theorem enum_some {env : Env} {M M' : List MO} {ds : List D} (e : iEnumD f env M = some (ds, M')) : ∃ d xs, f env M = some (d, M') ∧ seqItems d = some xs ∧ ds = enumD xs := by
  unfold iEnumD at e
  split at e
  · rename_i d M1 h
    obtain ⟨xs, h1, h2⟩ := map_some e
    cases h2
    exact ⟨d, xs, h, h1, rfl⟩
  · cases e
theorem iEnumP (hg : Gl X "enumerate") (hm : X.mg "enumerate" = none) (he : PE X e (tP X.K f)) (hp : plainE e = true) : PI X (.Tuple elts kk tpos) (.Call (.Name "enumerate" p) [e] [] pos) (tI X.K (iEnumD f)) := PI.imp (pi_enumX hg hm he hp) fun σ H R h => by
  obtain ⟨W, env, M, ds, M', w, re, e, q⟩ := h
  obtain ⟨d, xs, e1, e2, rfl⟩ := enum_some e
  refine ⟨W, env, M, d, M', w, re, e1, fun v H' W' ev w' r => ?_⟩
  obtain ⟨a, vs, rfl, h1, r1⟩ := r.seqB w' e2
  refine ⟨a, _, vs, rfl, h1, q _ _ _ ev w' fun i W2 M2 H2 e3 w2 => ?_⟩
  obtain ⟨a2, vs2, ea, h3, r3⟩ := (r.evoO e3).seqB w2 e2
  cases ea
  exact walk_enum i w2 h3 r3
theorem iEnumF (hg : Gl X "enumerate") (hm : X.mg "enumerate" = none) (he : PE X e (tF X.K f)) (hp : plainE e = true) : PI X (.Tuple elts kk tpos) (.Call (.Name "enumerate" p) [e] [] pos) (tIS X.K (iEnumD f)) := PI.imp (pi_enumX hg hm he hp) fun σ H R h => by
  obtain ⟨W, env, M, ds, M', w, re, e, q⟩ := h
  obtain ⟨d, xs, e1, e2, rfl⟩ := enum_some e
  refine ⟨W, env, M, d, M', w, re, e1, fun v H' W' ev w' r => ?_⟩
  obtain ⟨a, vs, rfl, h1, r1⟩ := (RepP.fz r).seqB w' e2
  refine ⟨a, _, vs, rfl, h1, q _ _ _ ev w' fun i W2 M2 H2 e3 w2 => ?_⟩
  obtain ⟨a2, vs2, ea, h3, r3⟩ := (RepP.fz (r.evoG e3)).seqB w2 e2
  cases ea
  exact walk_enum i w2 h3 r3
end
/-! ### zip -/
def zipD (xs ys : List D) : List D := List.zipWith (fun x y => .tup [x, y]) xs ys
def iZipD (fs : EL) : EI := fun env M => match fs env M with
  | some ([x, y], M1) => match seqItems x, seqItems y with
    | some xs, some ys => some (zipD xs ys, M1)
    | _, _ => none
  | _ => none
theorem walk_zip {K : PySem.W.Frag} {W : Wd} {M : List MO} {H : Hp} {a c : Addr} {b1 b2 : Bool} {vs us : List V} {ds es : List D} (i : Nat) (w : Rw K W M H) (h : SqB K b1 H a vs) (h2 : SqB K b2 H c us) (r : RepsW K W vs ds) (r2 : RepsW K W us es) :
    ((zipD ds es).length = i → (ItzB K b1 b2 a c).stop i H) ∧ (∀ d, (zipD ds es)[i]? = some d → (ItzB K b1 b2 a c).go i H ∧ ∀ x H', (ItzB K b1 b2 a c).yld i H x H' → ∃ W', Evo W W' ∧ Rw K W' M H' ∧ RepW K W' x d) := by
  refine ⟨fun hl => ⟨vs, us, h, h2, ?_⟩, fun d hd => ?_⟩
  · rw [r.length, r2.length]
    simpa [zipD] using hl
  · unfold zipD at hd
    rw [List.getElem?_zipWith] at hd
    cases e1 : ds[i]? with
    | none =>
      rw [e1] at hd
      cases hd
    | some x =>
      cases e2 : es[i]? with
      | none =>
        rw [e1, e2] at hd
        cases hd
      | some y =>
        rw [e1, e2] at hd
        cases hd
        obtain ⟨v, hv, rv⟩ := r.get e1
        obtain ⟨u, hu, ru⟩ := r2.get e2
        refine ⟨⟨vs, us, v, u, h, h2, hv, hu⟩, fun z H' ⟨T, x', y', o, ex, hT, ho, eH, hx, hy⟩ => ?_⟩
        subst ex eH
        have q1 := hx vs h
        rw [hv] at q1
        cases q1
        have q2 := hy us h2
        rw [hu] at q2
        cases q2
        exact w.newT hT o ho (.cons rv (.cons ru .nil))
theorem zip_some {fs : EL} {env : Env} {M M' : List MO} {ds : List D} (e : iZipD fs env M = some (ds, M')) : ∃ x y xs ys, fs env M = some ([x, y], M') ∧ seqItems x = some xs ∧ seqItems y = some ys ∧ ds = zipD xs ys := by
  unfold iZipD at e
  split at e
  · rename_i x y M1 h
    split at e
    · rename_i xs ys h1 h2
      cases e
      exact ⟨x, y, xs, ys, h, h1, h2, rfl⟩
    · cases e
  · cases e
section
variable {X : Cx} {e e2 : Expr} {fs : EL} {p pos tpos : Pos} {elts : List Expr} {kk : Nat}
theorem RepPs.evoO {K : PySem.W.Frag} {W W' : Wd} : ∀ {vs : List V} {ds : List D}, RepPs K W vs ds → EvoO W W' → RepPs K W' vs ds
  | _, _, .nil, _ => .nil
  | _, _, .cons h t, e => .cons (h.evoO e) (RepPs.evoO t e)
theorem RepPs.ofReps {K : PySem.W.Frag} {W : Wd} : ∀ {vs : List V} {ds : List D}, RepsW K W vs ds → RepPs K W vs ds
  | _, _, .nil => .nil
  | _, _, .cons h t => .cons (.fz h) (RepPs.ofReps t)
theorem iZipP (hg : Gl X "zip") (hm : X.mg "zip" = none) (ha : PA X [e, e2] (tLP X.K fs)) (hp : plainE e = true) (hp2 : plainE e2 = true) : PI X (.Tuple elts kk tpos) (.Call (.Name "zip" p) [e, e2] [] pos) (tI X.K (iZipD fs)) := PI.imp (pi_zipX hg hm ha hp hp2) fun σ H R h => by
  obtain ⟨W, env, M, ds, M', w, re, e, q⟩ := h
  obtain ⟨x, y, xs, ys, e1, e2, e3, rfl⟩ := zip_some e
  refine ⟨W, env, M, _, M', w, re, e1, fun vs H' W' ev w' r => ?_⟩
  obtain ⟨v, u, rfl, rv, ru⟩ := r.two
  obtain ⟨a, vs, rfl, h1, r1⟩ := rv.seqB w' e2
  obtain ⟨c, us, rfl, h2, r2⟩ := ru.seqB w' e3
  refine ⟨a, c, _, _, vs, us, rfl, h1, h2, q _ _ _ ev w' fun i W2 M2 H2 e4 w2 => ?_⟩
  obtain ⟨a2, vs2, ea, h3, r3⟩ := (rv.evoO e4).seqB w2 e2
  cases ea
  obtain ⟨c2, us2, ec, h4, r4⟩ := (ru.evoO e4).seqB w2 e3
  cases ec
  exact walk_zip i w2 h3 h4 r3 r4
theorem iZipF (hg : Gl X "zip") (hm : X.mg "zip" = none) (ha : PA X [e, e2] (tL X.K fs)) (hp : plainE e = true) (hp2 : plainE e2 = true) : PI X (.Tuple elts kk tpos) (.Call (.Name "zip" p) [e, e2] [] pos) (tIS X.K (iZipD fs)) := PI.imp (pi_zipX hg hm ha hp hp2) fun σ H R h => by
  obtain ⟨W, env, M, ds, M', w, re, e, q⟩ := h
  obtain ⟨x, y, xs, ys, e1, e2, e3, rfl⟩ := zip_some e
  refine ⟨W, env, M, _, M', w, re, e1, fun vs H' W' ev w' r => ?_⟩
  cases r with
  | cons rv r =>
    cases r with
    | cons ru r =>
      cases r
      obtain ⟨a, vs, rfl, h1, r1⟩ := (RepP.fz rv).seqB w' e2
      obtain ⟨c, us, rfl, h2, r2⟩ := (RepP.fz ru).seqB w' e3
      refine ⟨a, c, _, _, vs, us, rfl, h1, h2, q _ _ _ ev w' fun i W2 M2 H2 e4 w2 => ?_⟩
      obtain ⟨a2, vs2, ea, h3, r3⟩ := (RepP.fz (rv.evoG e4)).seqB w2 e2
      cases ea
      obtain ⟨c2, us2, ec, h4, r4⟩ := (RepP.fz (ru.evoG e4)).seqB w2 e3
      cases ec
      exact walk_zip i w2 h3 h4 r3 r4
end
/-! ### living lists -/
/-- a new list lives on -/
def eLive (f : EE) : EP := fun env M => match f env M with
  | some ((.lst ds, true), M') => some (.obj M'.length, M' ++ [.lst ds])
  | _ => none
theorem Rw.live {K : PySem.W.Frag} {W : Wd} {M : List MO} {H : Hp} {a : Addr} {m : MO} (w : Rw K W M H) (r : MoOk K W.G W.al H a m) (g : W.G a = none) (b : W.B a = none) (oo : W.O a = none) (ma : a ∉ W.al) :
    Evo W { W with al := W.al ++ [a] } ∧ Rw K { W with al := W.al ++ [a] } (M ++ [m]) H := by
  have ev : Evo W { W with al := W.al ++ [a] } := ⟨Le.refl _, rfl, rfl, ⟨[a], rfl⟩⟩
  refine ⟨ev, ⟨w.g, w.b, w.o, w.gb, w.bo, fun c hc => ?_, ?_, ?_, fun n c m' h1 h2 => ?_⟩⟩
  · rcases List.mem_append.mp hc with hc | hc
    · exact w.ag c hc
    · rw [List.mem_singleton.mp hc]
      exact ⟨g, b, oo⟩
  · exact (List.perm_append_singleton _ _).nodup_iff.mpr (List.nodup_cons.mpr ⟨ma, w.nd⟩)
  · show (W.al ++ [a]).length = (M ++ [m]).length
    rw [List.length_append, List.length_append, w.ml]
    rfl
  · have h1 : (W.al ++ [a])[n]? = some c := h1
    by_cases hn : n < W.al.length
    · rw [List.getElem?_append_left hn] at h1
      rw [List.getElem?_append_left (by rw [← w.ml]; exact hn)] at h2
      exact (w.mo n c m' h1 h2).mono ev.g ev.al rfl
    · rw [List.getElem?_append_right (Nat.le_of_not_lt hn)] at h1
      rw [List.getElem?_append_right (by rw [← w.ml]; exact Nat.le_of_not_lt hn), ← w.ml] at h2
      cases e : n - W.al.length with
      | zero =>
        rw [e] at h1 h2
        cases h1
        cases h2
        exact r.mono ev.g ev.al rfl
      | succ j =>
        rw [e] at h1
        cases h1
theorem pLive {X : Cx} {e : Expr} {f : EE} (he : PE X e (tE X.K f)) : PE X e (tF X.K (eLive f)) := PE.imp he fun σ H Q h => by
  obtain ⟨W, env, M, d, M', w, re, e, q⟩ := h
  unfold eLive at e
  split at e
  · rename_i ds M1 hf
    cases e
    refine ⟨W, env, M, _, M1, w, re, hf, fun v H' W' ev w' r => ?_⟩
    cases r with
    | new h r g b oo m =>
      cases r with
      | lst r =>
        obtain ⟨e2, w2⟩ := w'.live (.lst h r) g b oo m
        refine q _ _ _ (ev.trans e2) w2 (.obj ?_)
        rw [← w'.ml]
        show (W'.al ++ [_])[W'.al.length]? = _
        rw [List.getElem?_append_right (Nat.le_refl _), Nat.sub_self]
        rfl
  · cases e
theorem RepP.live {K : PySem.W.Frag} {W : Wd} {M : List MO} {H : Hp} {v : V} {n : Nat} {ds : List D} (w : Rw K W M H) (r : RepP K W v (.obj n)) (h : M[n]? = some (.lst ds)) : ∃ a vs, v = .ref a ∧ W.al[n]? = some a ∧ H a = some (.lst vs) ∧ RepsW K W vs ds := by
  obtain ⟨a, rfl, ha⟩ := r.obj
  have z := w.mo n a _ ha h
  cases z with
  | lst h r => exact ⟨a, _, rfl, ha, h, r⟩
/-- a place of a living list, or of a value -/
def eIxM (fa fb : EP) : EE := fun env M => match fa env M with
  | some (x, M1) => match fb env M1 with
    | some (y, M2) => match x, y with
      | .obj n, .int i => match M2[n]? with
        | some (.lst ds) => (atI ds i).map fun d => ((d, false), M2)
        | _ => none
      | x, y => (dIx x y).map fun r => (r, M2)
    | none => none
  | none => none
theorem tE_ixM {K : PySem.W.Frag} {fa fb : EP} {σ : L2.St} {H : Hp} {Q : VK} (h : tE K (eIxM fa fb) σ H Q) : tP K fa σ H fun x H1 => tP K fb σ H1 fun y H2 => rIxX K x y H2 Q := by
  obtain ⟨W, env, M, r, M', w, re, e, q⟩ := h
  unfold eIxM at e
  split at e
  · rename_i x M1 h1
    split at e
    · rename_i y M2 h2
      refine ⟨W, env, M, x, M1, w, re, h1, fun v H1 W1 e1 w1 r1 => ⟨W1, env, M1, y, M2, w1, re.evo e1, h2, fun u H2 W2 e2 w2 r2 => ?_⟩⟩
      split at e
      · rename_i n i
        split at e
        · rename_i ds hn
          obtain ⟨d, hd, ed⟩ := map_some e
          cases ed
          obtain ⟨a, vs, rfl, _, ha, rs⟩ := (r1.evo e2).live w2 hn
          obtain ⟨z, hz, rz⟩ := rs.atI hd
          exact .inl ⟨a, vs, i, z, rfl, r2.int, .inl (.inl ha), hz, q _ _ _ (e1.trans e2) w2 (.old rz)⟩
        · cases e
      · obtain ⟨d, hd, ed⟩ := map_some e
        cases ed
        exact ok_ix W2 _ H2 v u _ _ _ _ w2 (r1.evo e2) r2 hd fun v H' W' e3 w3 r3 => q _ _ _ ((e1.trans e2).trans e3) w3 r3
    · cases e
  · cases e
theorem pIxM {X : Cx} {a b : Expr} {pos : Pos} {fa fb : EP} (hu : X.A.units + 70 < cLine) (ha : PE X a (tP X.K fa)) (hb : PE X b (tP X.K fb)) (hs : PlainIx b) : PE X (.Subscript a b pos) (tE X.K (eIxM fa fb)) :=
  PE.imp (pe_ix (ix_X hu) ha hb hs) fun _ _ _ h => tE_ixM h
/-- x[i] = e -/
theorem Rw.mut {K : PySem.W.Frag} {W : Wd} {M : List MO} {H : Hp} {a : Addr} {n : Nat} {o : HO} {m : MO} (w : Rw K W M H) (ha : W.al[n]? = some a) (r : MoOk K W.G W.al (upd H a o) a m) : Rw K W (M.set n m) (upd H a o) := by
  obtain ⟨g, b, oo⟩ := w.ag a (List.mem_of_getElem? ha)
  have ne : ∀ {G : Hp}, G a = none → Le G H → Le G (upd H a o) := fun {G} hg l c u e => by
    have z : c ≠ a := fun z => by
      rw [z, hg] at e
      cases e
    rw [upd_ne z]
    exact l _ _ e
  refine ⟨ne g w.g, ne b w.b, ne oo w.o, w.gb, w.bo, w.ag, w.nd, by rw [List.length_set]; exact w.ml, fun k c m' h1 h2 => ?_⟩
  have hn : n < M.length := by rw [← w.ml]; exact (List.getElem?_eq_some_iff.mp ha).1
  by_cases z : n = k
  · subst z
    rw [List.getElem?_set_self hn] at h2
    cases h2
    rw [ha] at h1
    cases h1
    exact r
  · rw [List.getElem?_set_ne z] at h2
    have zc : c ≠ a := fun zc => by
      subst zc
      obtain ⟨l1, e1⟩ := List.getElem?_eq_some_iff.mp ha
      obtain ⟨l2, e2⟩ := List.getElem?_eq_some_iff.mp h1
      exact z ((List.getElem?_inj l1 w.nd).mp (ha.trans h1.symm))
    exact (w.mo k c m' h1 h2).mono (Le.refl _) (Pre.refl _) (upd_ne zc)
def dctPut (ks : List Key) (ds : List D) (k : Key) (e : D) : List Key × List D :=
  if (ks.any fun j => decide (j = k)) = true then (ks, List.zipWith (fun j d => if j = k then e else d) ks ds) else (ks ++ [k], ds ++ [e])
theorem put_rep {K : PySem.W.Frag} {G : Hp} {al : List Addr} {kvs : List (Key × V)} {ds : List D} {k : Key} {v : V} {e : D} (r : Reps K G al (kvs.map (·.2)) ds) (rv : Rep K G al v e) :
    (dctPut (kvs.map (·.1)) ds k e).1 = (putK kvs k v).map (·.1) ∧ Reps K G al ((putK kvs k v).map (·.2)) (dctPut (kvs.map (·.1)) ds k e).2 := by
  have hany : ((kvs.map (·.1)).any fun j => decide (j = k)) = kvs.any fun kv => decide (kv.1 = k) := by
    rw [List.any_map]
    rfl
  unfold dctPut putK
  rw [hany]
  by_cases h : (kvs.any fun kv => decide (kv.1 = k)) = true
  · rw [if_pos h, if_pos h]
    clear h hany
    constructor
    · dsimp only
      rw [List.map_map]
      refine List.map_congr_left fun p _ => ?_
      show p.1 = (if p.1 = k then (p.1, v) else p).1
      split <;> rfl
    · dsimp only
      induction kvs generalizing ds with
      | nil =>
        cases r
        exact .nil
      | cons p kvs ih =>
        cases r with
        | cons r1 rs =>
          rw [List.map_cons, List.map_cons, List.map_cons, List.zipWith_cons_cons]
          refine .cons ?_ (ih rs)
          by_cases e : p.1 = k
          · rw [if_pos e, if_pos e]
            exact rv
          · rw [if_neg e, if_neg e]
            exact r1
  · rw [if_neg h, if_neg h]
    constructor
    · simp
    · rw [List.map_append]
      exact r.snoc rv
def rSetX : V → V → V → Hp → (Hp → Prop) → Prop := fun o i v H Q => rSetL o i v H Q ∨ ∃ a H', o = .ref a ∧ DPut H a i v H' ∧ Q H'
theorem set_X {X : Cx} (hu : X.A.units + 70 < cLine) : PSet X rSetX := by
  intro pins s σ H o i v ov iv u Q I ro ri rv h
  rcases h with h | ⟨a, H', rfl, g, q⟩
  · exact set_list pins s σ H o i v ov iv u Q I ro ri rv h
  · obtain rfl : ov = Value.ref a := ro
    exact d_setItem (by omega) I g ri rv fun s' I' => ⟨H', I', q⟩
def sSub (i : Nat) (fi fe : EP) : ES := fun env M => match fe env M with
  | some (d, M1) => match env[i]? with
    | some (.fz (.obj n)) => match fi env M1 with
      | some (.int k, M2) => match M2[n]? with
        | some (.lst ds) => match ixN ds.length k with
          | some j => some (.nx, env, M2.set n (.lst (ds.set j d)))
          | none => none
        | _ => none
      | _ => none
    | some (.own (.lst ds)) => match fi env M1 with
      | some (.int k, M2) => match ixN ds.length k with
        | some j => some (.nx, env.set i (.own (.lst (ds.set j d))), M2)
        | none => none
      | _ => none
    | some (.own (.dct ks ds)) => match fi env M1 with
      | some (y, M2) => match y.key with
        | some k => if ks.length < LIM then some (.nx, env.set i (.own (.dct (dctPut ks ds k d).1 (dctPut ks ds k d).2)), M2) else none
        | none => none
      | none => none
    | _ => none
  | none => none
theorem tAsg_sub {K : PySem.W.Frag} {i : Nat} {fi fe : EP} {Dd : Ends} {σ : L2.St} {H : Hp} (h : tS K (sSub i fi fe) Dd σ H) : tAsg (tF K fe) (gSub (tVar i) (tP K fi) rSetX) Dd σ H := by
  obtain ⟨W, env, M, fl, env', M', w, re, e, q⟩ := h
  unfold sSub at e
  split at e
  · rename_i d M1 h1
    refine ⟨W, env, M, d, M1, w, re, h1, fun v H1 W1 e1 w1 rv => ?_⟩
    have re1 := re.evo e1
    split at e
    · rename_i n hn
      have y := re1.at_ i _ hn
      cases hx : σ[i]? with
      | none =>
        rw [hx] at y
        cases y
      | some x =>
        rw [hx] at y
        cases y with
        | fz y =>
          split at e
          · rename_i k M2 h2
            split at e
            · rename_i ds hM
              split at e
              · rename_i j hj
                cases e
                refine ⟨_, hx, W1, env, M1, _, M2, w1, re1, h2, fun u H2 W2 e2 w2 ru => ?_⟩
                obtain ⟨a, vs, rfl, ha, hv, rs⟩ := (RepP.fz (y.evo e2)).live w2 hM
                refine .inl ⟨a, vs, k, j, rfl, ru.int, hv, by rw [rs.length]; exact hj, ?_⟩
                have w3 := w2.mut (o := .lst (vs.set j v)) ha (.lst upd_same (Reps.set j (rv.evo e2) rs))
                exact q _ _ W2 (e1.trans e2).s w3 (re1.evo e2)
              · cases e
            · cases e
          · cases e
    · rename_i ds hds
      have y := re1.at_ i _ hds
      cases hx : σ[i]? with
      | none =>
        rw [hx] at y
        cases y
      | some x =>
        rw [hx] at y
        cases y with
        | own y r =>
          rename_i a o
          cases r with
          | lst r =>
            rename_i vs
            split at e
            · rename_i k M2 h2
              split at e
              · rename_i j hj
                cases e
                refine ⟨_, hx, W1, env, M1, _, _, w1, re1, h2, fun u H2 W2 e2 w2 ru => ?_⟩
                have ho : W2.O a = some (.lst vs) := by
                  rw [e2.o]
                  exact y
                have rs := Reps.evo r e2
                refine .inl ⟨a, vs, k, j, rfl, ru.int, w2.o _ _ ho, by rw [rs.length]; exact hj, ?_⟩
                obtain ⟨W3, e3, w3, re3⟩ := Re.write w2 (re1.evo e2) hds hx ho (.lst (Reps.set j (rv.evo e2) rs))
                exact q _ _ W3 ((e1.trans e2).s.trans e3) w3 re3
              · cases e
            · cases e
    · rename_i ks ds hds
      have y := re1.at_ i _ hds
      cases hx : σ[i]? with
      | none =>
        rw [hx] at y
        cases y
      | some x =>
        rw [hx] at y
        cases y with
        | own y r =>
          rename_i a o
          cases r with
          | dct r =>
            rename_i kvs
            split at e
            · rename_i yk M2 h2
              split at e
              · rename_i k hk
                split at e
                · rename_i hl
                  cases e
                  refine ⟨_, hx, W1, env, M1, _, _, w1, re1, h2, fun u H2 W2 e2 w2 ru => ?_⟩
                  have ho : W2.O a = some (.dK kvs) := by
                    rw [e2.o]
                    exact y
                  have rs := Reps.evo r e2
                  obtain ⟨g1, g2⟩ := put_rep (k := k) rs (rv.evo e2)
                  refine .inr ⟨a, _, rfl, by rw [ru.key hk]; exact DPut.k (w2.o _ _ ho) (by rw [List.length_map] at hl; exact hl), ?_⟩
                  obtain ⟨W3, e3, w3, re3⟩ := Re.write w2 (re1.evo e2) hds hx ho (.dct g2)
                  rw [g1] at q
                  exact q _ _ W3 ((e1.trans e2).s.trans e3) w3 re3
                · cases e
              · cases e
            · cases e
    · cases e
  · cases e
/-! ### l.index(x) -/
theorem pys_map (ds : List D) : D.pys ds = ds.map D.py := by
  induction ds with
  | nil => rfl
  | cons d ds ih =>
    rw [D.pys, ih]
    rfl

theorem pys_len (ds : List D) : (D.pys ds).length = ds.length := by
  rw [pys_map, List.length_map]
theorem tE_index {K : PySem.W.Frag} {fa fb : EP} {σ : L2.St} {H : Hp} {Q : VK} (h : tE K (eOp dIndex fa fb) σ H Q) : tBM K "list" (rIndexD K) (tP K fa) (tCons (tP K fb) tNil) σ H Q := by
  obtain ⟨W, env, M, r, M', w, re, e, q⟩ := h
  unfold eOp at e
  split at e
  · rename_i x M1 h1
    split at e
    · rename_i y M2 h2
      obtain ⟨res, hd, er⟩ := map_some e
      cases er
      unfold dIndex at hd
      split at hd
      · rename_i _ ds
        split at hd
        · rename_i hc
          simp only [Bool.and_eq_true, decide_eq_true_eq] at hc
          obtain ⟨⟨⟨p1, p2⟩, p3⟩, p4⟩ := hc
          obtain ⟨j, hj, ej⟩ := map_some hd
          cases ej
          refine ⟨W, env, M, _, M1, w, re, h1, fun v H1 W1 e1 w1 r1 => ?_⟩
          obtain ⟨a, vs, rfl, ha, rs⟩ := r1.lst w1
          refine ⟨.inl ⟨rfl, vs, .inl (.inl ha)⟩, W1, env, M1, _, _, w1, re.evo e1, h2, fun u H2 W2 e2 w2 r2 => ?_⟩
          have pl : (D.lst ds).pure = true := p2
          obtain ⟨dl, cl⟩ := (r1.evo e2).dp w2 pl
          obtain ⟨dd, cd⟩ := r2.dp w2 p1
          obtain ⟨z, g1, g2, g3⟩ := ixOf_some hj
          have sl : SeqAt.shaped (D.py (.lst ds)) = true := by
            unfold SeqAt.shaped
            rw [cl, D.depth_py _ pl]
            simp only [Bool.true_and, decide_eq_true_eq]
            show D.depths ds + 1 ≤ 64
            omega
          have sd : SeqAt.shaped y.py = true := by
            unfold SeqAt.shaped
            rw [cd, D.depth_py _ p1]
            simp only [Bool.true_and, decide_eq_true_eq]
            exact p4
          refine ⟨a, u, y.py, D.pys ds, j, z.py, rfl, rfl, dl, dd, sl, sd, ?_, g2, fun m z' hm hz => ?_, q _ _ _ (e1.trans e2) w2 (.old (.int _))⟩
          · rw [pys_get, g1]
            rfl
          · rw [pys_get] at hz
            obtain ⟨y', hy, rfl⟩ := map_some hz
            exact g3 m y' hm hy
        · cases hd
      · cases hd
    · cases e
  · cases e
theorem pIndex {X : Cx} {o e : Expr} {apos cpos : Pos} {fa fb : EP} (hu : X.A.units + 70 < cLine) (ho : PE X o (tP X.K fa)) (he : PE X e (tP X.K fb)) (hp : plainE e = true) (hat : attributeBase o "index" X.env (eval o X.env) = eval o X.env) (hline : (apos.endLine == cpos.line) = true) :
    PE X (.Call (.Attribute o "index" apos) [e] [] cpos) (tE X.K (eOp dIndex fa fb)) := by
  refine PE.imp (pe_bm PySem.F.plainAttrs_list PySem.F.slot_list_index PySem.F.type_list_index (mt_indexD (by omega)) ho (pa_cons he pa_nil (star_cons hp)) hat ?_ hline (star_cons hp) (by rfl)) fun _ _ _ h => tE_index h
  rw [star_cons hp]
  rfl
/-! ### x[::-1] -/
theorem rev_applied {prog : Program} {w : World} {A : Around} {E : Value → Shared → Prop} {s : Shared} {sl : Addr} {vs : Value} {n : Nat} {Q : Int × Int × Nat → Shared → Prop} (hs : s.heap.IsSliceOf sl .none .none vs) (ps : IsPart vs (some (-1)))
    (h : Q ((n : Int) - 1, -1, n) s) : wpAny (model prog w) A (Builtin.Slice.sliceApplied (.ref sl) (pure (n : Int))) Q E s := by
  obtain ⟨os, hos, hcs, hds⟩ := id hs
  unfold Builtin.Slice.sliceApplied Builtin.Slice.sliceFields
  refine wpAny_bind (wpAny_bind (wpAny_field hos hds (x := .none) rfl (wpAny_bind (wpAny_field hos hds (x := .none) rfl (wpAny_bind (wpAny_field hos hds (x := vs) rfl (wpAny_pure ?_)))))))
  refine wpAny_bind (HT.slicePart_ ps ?_)
  show wpAny _ _ (if ((-1 : Int) == 0) = true then _ else _) _ _ s
  rw [if_neg (by decide)]
  refine wpAny_bind (slicePart_none (wpAny_bind (slicePart_none (wpAny_bind (wpAny_pure ?_)))))
  have ep : Builtin.Slice.slicePlaces ((n : Int) - 1) (-1) (-1) = n := by
    unfold Builtin.Slice.slicePlaces
    by_cases e : n = 0
    · subst e
      rfl
    · have h1 : ¬ ((-1 : Int) > 0) := by decide
      simp
      omega
  show wpAny _ _ (pure ((n : Int) - 1, (-1 : Int), Builtin.Slice.slicePlaces ((n : Int) - 1) (-1) (-1))) _ _ s
  rw [ep]
  exact wpAny_pure h
end R

set_option Elab.async false
set_option linter.all false
set_option maxRecDepth 100000
set_option maxHeartbeats 2000000
/-! R19: x[::-1] -/
namespace R
open PySem PySem.Spec PySem.Calls PyProof.Rows L2
theorem fm_congr {α β : Type} {f g : α → Option β} : ∀ {l : List α}, (∀ x ∈ l, f x = g x) → l.filterMap f = l.filterMap g
  | [], _ => rfl
  | x :: l, h => by
    rw [List.filterMap_cons, List.filterMap_cons, h x (List.mem_cons_self ..), fm_congr fun y hy => h y (List.mem_cons_of_mem _ hy)]
theorem rev_pick (xs : Array Value) : ((List.range xs.size).filterMap fun (m : Nat) => xs[((xs.size : Int) - 1 + (m : Int) * (-1)).toNat]?).toArray = xs.toList.reverse.toArray := by
  have e : (List.range xs.size).filterMap (fun (m : Nat) => xs[((xs.size : Int) - 1 + (m : Int) * (-1)).toNat]?) = ((List.range xs.size).map fun k => xs.size - 1 - k).filterMap (xs[·]?) := by
    rw [List.filterMap_map]
    refine fm_congr fun m hm => ?_
    have hm := List.mem_range.mp hm
    have : ((xs.size : Int) - 1 + (m : Int) * (-1)).toNat = xs.size - 1 - m := by omega
    rw [this]
    rfl
  rw [e, PySem.W.krv_range, List.filterMap_reverse, PySem.W.krv_all]
theorem getItem_tuple_rev {prog : Program} {w : World} {A : Around} {E : Value → Shared → Prop} {s : Shared} {t sl : Addr} {items : Array Value} {vs : Value} {Q : Value → Shared → Prop} (ht : IsTup s.heap t items) (hs : s.heap.IsSliceOf sl .none .none vs) (ps : IsPart vs (some (-1)))
    (h : Q (.ref s.heap.objs.size) { s with heap := s.heap.push { cls := .type "tuple", data := .seq items.toList.reverse.toArray } })
    (hsz : items.size ≤ sizeLine) : wpAny (model prog w) A (getItem (.ref t) (.ref sl)) Q E s := by
  have hz : sizeOk (.seq items.toList.reverse.toArray) := by
    show items.toList.reverse.toArray.size ≤ sizeLine
    rw [List.size_toArray, List.length_reverse, Array.length_toList]
    exact hsz
  obtain ⟨os, hos, hcs, hds⟩ := id hs
  have hTs : s.TypeIs (.ref sl) "slice" := ⟨os, hos, hcs⟩
  unfold getItem
  try with_reducible refine wpAny_holding ?_
  first | refine wpAny_bind (wpAny_pure ?_) | skip
  refine wpAny_bind (wpAny_sequenceKey ht.typeIs (by decide) ?_)
  refine wpAny_bind (wpAny_callSpecial?_slot (name := Str.ofString "__getitem__") ht.typeIs PyProof.Rows.slot_tuple_getitem
    (wpAny_call_entry PyProof.Rows.slot_tuple_getitem ht.typeIs entry_tuple_getitem ?_ (args_tuple_getitem _ _)))
  show wpAny _ _ (Builtin.Tuple.tupleItemsOf (.ref t) >>= _) _ _ s
  refine wpAny_bind (tupleItemsOf_ ht ?_)
  refine wpAny_bind (wpAny_typeOf hTs ?_)
  rw [if_pos (by decide)]
  refine wpAny_bind (rev_applied hs ps ?_)
  have hno : ¬ ((((items.size : Int) - 1) == 0 && (-1 : Int) == 1 && items.size == items.size) = true) := by
    have z : ((-1 : Int) == 1) = false := by decide
    rw [z]
    simp
  show wpAny _ _ (if (((items.size : Int) - 1) == 0 && (-1 : Int) == 1 && items.size == items.size) = true then _ else _) _ _ s
  rw [if_neg hno, rev_pick]
  first
    | exact wpAny_bind (m := Builtin.Tuple.tupleExact _) (wpAny_newObj_type (wpAny_pure ⟨_, rfl, wpAny_pure h⟩) hz)
    | exact wpAny_bind (m := Builtin.Tuple.tupleExact _) (wpAny_newObj_type (wpAny_bind (wpAny_pure (wpAny_pure ⟨_, rfl, wpAny_pure h⟩))) hz)
    | exact wpAny_bind (wpAny_bind (m := Builtin.Tuple.tupleExact _) (wpAny_newObj_type (wpAny_pure (wpAny_pure ⟨_, rfl, wpAny_pure h⟩)) hz))
    | exact wpAny_bind (wpAny_bind (m := Builtin.Tuple.tupleExact _) (wpAny_newObj_type (wpAny_pure ⟨_, rfl, wpAny_pure h⟩) hz))
def rRevX (K : PySem.W.Frag) : V → Hp → VK → Prop := fun x H1 Q => ∃ a xs, x = .ref a ∧ ((SqL K H1 a xs ∧ ∀ p, H1 p = none → Q (.ref p) (upd H1 p (.lst xs.reverse))) ∨ (SqT K H1 a xs ∧ TQ Q H1 xs.reverse))
theorem pe_revX {X : Cx} {e : Expr} {te : TE} {k : Nat} {p1 p2 p3 pos : Pos} (he : PE X e te) : PE X (.Subscript e (.Slice none none (some (.UnaryOp .USub (.Constant (.int 1) k p1) p2)) p3) pos) (fun σ H Q => te σ H fun x H1 => rRevX X.K x H1 Q) := by
  refine ⟨fun pins s σ H Q I h => ?_⟩
  refine Subscript_ (thn (he.run pins s σ H _ I h) fun v s1 ⟨x, H1, I1, r1, q1⟩ => ?_)
  obtain ⟨a, xs, ex, q⟩ := q1
  subst ex
  cases r1
  have hst : PO X (some (.UnaryOp .USub (.Constant (.int 1) k p1) p2)) (tPart (tUn (rU fun i => .int (-i)) (tC (.int 1)))) := po_some (pe_un un_neg pe_int)
  refine wpAny_Slice (thn (po_none.run pins s1 σ H1 (fun o H2 => o = none ∧ H2 = H1) I1 ⟨rfl, rfl⟩) fun vl s2 ⟨l, H2, I2, pl, el, e2⟩ => ?_)
  subst el e2
  refine thn (po_none.run pins s2 σ H2 (fun o H3 => o = none ∧ H3 = H2) I2 ⟨rfl, rfl⟩) fun vu s3 ⟨u, H3, I3, pu, eu, e3⟩ => ?_
  subst eu e3
  refine thn (hst.run pins s3 σ H3 (fun o H4 => o = some (-1) ∧ H4 = H3) I3 ⟨1, rfl, -1, rfl, rfl, rfl⟩) fun vs s4 ⟨o, H4, I4, ps, eo, e4⟩ => ?_
  subst eo e4
  have I5 : L2.Inv X pins σ H4 { s4 with heap := s4.heap.push { cls := .type "slice", data := .fields #[vl, vu, vs] } } := I4.kept (t' := s4.toks) fun b ob q => Heap.get?_push_of_some _ q
  show wpAny (model X.prog X.w) X.A (subscriptTail e (.Slice none none (some (.UnaryOp .USub (.Constant (.int 1) k p1) p2)) p3) (.ref a) (.ref s4.heap.objs.size)) (L2.EP X pins σ Q) X.xe { s4 with heap := s4.heap.push { cls := .type "slice", data := .fields #[vl, vu, vs] } }
  rcases q with ⟨hx, q⟩ | ⟨hx, q⟩
  · obtain ⟨its, r, ht, hz⟩ := I5.list hx
    have hlen := r.length
    refine tail_any (ops := [.ref a, .ref s4.heap.objs.size]) ht.isList.typeIs (PySem.slot_list_getitem.lookup) ?_ (by with_unfolding_all rfl)
    refine wpAny_getItem_list_slice ht.isList (Heap.IsSliceOf.new _ vl vu vs) pl pu ps (by decide) ?_ (by rw [List.size_toArray]; omega)
    rw [PySem.W.krv_pick]
    refine ⟨.ref _, _, I5.laid (t' := s4.toks) (o := .lst xs.reverse) (fun b ob q => Heap.get?_push_of_some _ q) (Nat.le_refl _) ?_, rfl, q _ (I5.hok.fresh (Nat.le_refl _))⟩
    exact ⟨by rw [List.length_reverse]; exact hz, _, 0, r.reverse, Heap.get?_push_size _ rfl⟩
  · obtain ⟨its, r, ht, hz⟩ := I5.tuple hx
    have hlen := r.length
    have epl : vl = .none := by cases pl; rfl
    have epu : vu = .none := by cases pu; rfl
    subst epl epu
    refine tail_any (ops := [.ref a, .ref s4.heap.objs.size]) ht.typeIs PyProof.Rows.slot_tuple_getitem.lookup ?_ (by with_unfolding_all rfl)
    refine getItem_tuple_rev ht (Heap.IsSliceOf.new _ .none .none vs) ps ?_ (by rw [List.size_toArray]; omega)
    exact laidT (s := { s4 with heap := s4.heap.push { cls := .type "slice", data := .fields #[.none, .none, vs] } }) (t' := s4.toks) I5 r.reverse (by rw [List.length_reverse]; exact hz) q
def dRev : Op1
  | .tup xs => some (.tup xs.reverse, false)
  | .lst xs => some (.lst xs.reverse, true)
  | .scr xs => some (.lst xs.reverse, true)
  | _ => none
theorem ok_rev {K : PySem.W.Frag} : Ok1 K (rRevX K) dRev := by
  intro W M H x d res Q w rx h q
  unfold dRev at h
  split at h
  · cases h
    obtain ⟨a, vs, rfl, h1, r1⟩ := rx.tup w
    refine ⟨a, vs, rfl, .inr ⟨h1, fun p hp o ho => ?_⟩⟩
    obtain ⟨W3, e3, w3, r3⟩ := w.newT hp o ho r1.reverse
    exact q _ _ _ e3 w3 (.old r3)
  · cases h
    obtain ⟨a, vs, rfl, h1, r1⟩ := rx.lst w
    refine ⟨a, vs, rfl, .inl ⟨.inl (.inl h1), fun p hp => ?_⟩⟩
    obtain ⟨w3, r3⟩ := w.newL hp (.lst r1.reverse)
    exact q _ _ _ (Evo.refl W) w3 r3
  · cases h
    obtain ⟨a, vs, rfl, h1, r1⟩ := rx.scr w
    refine ⟨a, vs, rfl, .inl ⟨h1, fun p hp => ?_⟩⟩
    obtain ⟨w3, r3⟩ := w.newL hp (.lst r1.reverse)
    exact q _ _ _ (Evo.refl W) w3 r3
  · cases h
theorem pRev {X : Cx} {e : Expr} {f : EP} {k : Nat} {p1 p2 p3 pos : Pos} (he : PE X e (tP X.K f)) : PE X (.Subscript e (.Slice none none (some (.UnaryOp .USub (.Constant (.int 1) k p1) p2)) p3) pos) (tE X.K (eUn dRev f)) :=
  PE.imp (pe_revX he) fun _ _ _ h => tE_un ok_rev h

/-! ### list(range(..)), tuple(range(..)) -/
def eRngL (fs : EL) : EE := fun env M => match iRng fs env M with
  | some (ds, M1) => if ds.length ≤ 16777216 then some ((.lst ds, true), M1) else none
  | none => none
def eRngT (fs : EL) : EE := fun env M => match iRng fs env M with
  | some (ds, M1) => if ds.length ≤ 16777216 then some ((.tup ds, false), M1) else none
  | none => none
theorem reps_rg {K : PySem.W.Frag} {G : Hp} {al : List Addr} (a b : Int) : Reps K G al (rgV a b) (rints a (b - a).toNat) := by
  unfold rgV rints
  generalize List.range (b - a).toNat = l
  induction l with
  | nil => exact .nil
  | cons i l ih => exact .cons (.int _) ih
section
variable {X : Cx} {fs : EL}
theorem rg_some {fs : EL} {env : Env} {M M' : List MO} {ds : List D} (e : iRng fs env M = some (ds, M')) (hl : ds.length ≤ 16777216) : ∃ a b : Int, RgOk a b ∧ ds = rints a (b - a).toNat ∧ ((fs env M = some ([.int b], M') ∧ a = 0) ∨ fs env M = some ([.int a, .int b], M')) := by
  unfold iRng at e
  split at e
  · rename_i j M1 hf
    split at e
    · rename_i hj
      cases e
      obtain ⟨h1, h2⟩ := rng62_of hj
      rw [ints_len] at hl
      have e0 : (j - 0).toNat = j.toNat := by omega
      refine ⟨0, j, ?_, by rw [e0], .inl ⟨hf, rfl⟩⟩
      unfold RgOk
      refine ⟨by decide, by decide, h1, h2, ?_⟩
      rw [e0]
      exact hl
    · cases e
  · rename_i i j M1 hf
    split at e
    · rename_i hj
      rw [Bool.and_eq_true] at hj
      cases e
      obtain ⟨h1, h2⟩ := rng62_of hj.1
      obtain ⟨h3, h4⟩ := rng62_of hj.2
      rw [ints_len] at hl
      exact ⟨i, j, ⟨h1, h2, h3, h4, hl⟩, rfl, .inr hf⟩
    · cases e
  · cases e
def tRgX (t : TA) : L2.St → Hp → (Int → Int → Hp → Prop) → Prop := fun σ H Q => t σ H fun vs H1 => (∃ n, vs = [.int n] ∧ Q 0 n H1) ∨ ∃ i j, vs = [.int i, .int j] ∧ Q i j H1
theorem prg_X {a : Expr} {l : List Expr} {t : TA} {p pos : Pos} (hg : Gl X "range") (hm : X.mg "range" = none) (ha : PA X (a :: l) t) (hp : (a :: l).all plainE = true) : PRg X (.Call (.Name "range" p) (a :: l) [] pos) (tRgX t) := by
  intro pins s σ H Q I h
  rw [List.all_cons, Bool.and_eq_true] at hp
  refine wpAny_Call_Name_kw (ld_blt I hg hm boot_range (PyProof.Rows.callWith_type1 (thn (ha.run pos pins s σ H _ I h) fun us s1 ⟨vs, H1, I1, r1, q1⟩ => ?_) (star_cons hp.1) (back_any hp.2)))
  rcases q1 with ⟨n, rfl, q⟩ | ⟨i, j, rfl, q⟩
  · cases r1 with
    | cons r rr =>
      cases rr
      obtain ⟨t, rfl⟩ := r
      exact call_range_1 ⟨_, 0, n, _, _, _, H1, rfl, IsRange.new _ _ _ _ _ _ _, I1.kept fun b u e => Heap.get?_push_of_some _ e, q⟩
  · cases r1 with
    | cons r rr =>
      cases rr with
      | cons r' rr =>
        cases rr
        obtain ⟨t, rfl⟩ := r
        obtain ⟨t', rfl⟩ := r'
        exact call_range_2 ⟨_, i, j, _, _, _, H1, rfl, IsRange.new _ _ _ _ _ _ _, I1.kept fun b u e => Heap.get?_push_of_some _ e, q⟩
theorem tE_rngL {K : PySem.W.Frag} {fs : EL} {σ : L2.St} {H : Hp} {Q : VK} (h : tE K (eRngL fs) σ H Q) : tLstRg (tRgX (tLP K fs)) σ H Q := by
  obtain ⟨W, env, M, r, M', w, re, e, q⟩ := h
  unfold eRngL at e
  split at e
  · rename_i ds M1 h1
    split at e
    · rename_i hl
      cases e
      obtain ⟨a, b, ok, rfl, hf⟩ := rg_some h1 hl
      have fin : ∀ H' W', Evo W W' → Rw K W' M' H' → RgOk a b ∧ ∀ p, H' p = none → Q (.ref p) (upd H' p (.lst (rgV a b))) := fun H' W' ev w' => ⟨ok, fun p hp => by
        obtain ⟨w3, r3⟩ := w'.newL hp (.lst (reps_rg a b))
        exact q _ _ _ ev w3 r3⟩
      rcases hf with ⟨hf, rfl⟩ | hf
      · refine ⟨W, env, M, _, _, w, re, hf, fun vs H' W' ev w' rs => .inl ⟨b, ?_, fin H' W' ev w'⟩⟩
        obtain ⟨v, rfl, r⟩ := RepP.one rs
        rw [r.int]
      · refine ⟨W, env, M, _, _, w, re, hf, fun vs H' W' ev w' rs => .inr ⟨a, b, ?_, fin H' W' ev w'⟩⟩
        obtain ⟨v, u, rfl, r, r'⟩ := RepPs.two rs
        rw [r.int, r'.int]
    · cases e
  · cases e
theorem tE_rngT {K : PySem.W.Frag} {fs : EL} {σ : L2.St} {H : Hp} {Q : VK} (h : tE K (eRngT fs) σ H Q) : tTupRgN (tRgX (tLP K fs)) σ H Q := by
  obtain ⟨W, env, M, r, M', w, re, e, q⟩ := h
  unfold eRngT at e
  split at e
  · rename_i ds M1 h1
    split at e
    · rename_i hl
      cases e
      obtain ⟨a, b, ok, rfl, hf⟩ := rg_some h1 hl
      have fin : ∀ H' W', Evo W W' → Rw K W' M' H' → RgOk a b ∧ TQ Q H' (rgV a b) := fun H' W' ev w' => ⟨ok, fun p hp o ho => by
        obtain ⟨W3, e3, w3, r3⟩ := w'.newT hp o ho (reps_rg a b)
        exact q _ _ _ (ev.trans e3) w3 (.old r3)⟩
      rcases hf with ⟨hf, rfl⟩ | hf
      · refine ⟨W, env, M, _, _, w, re, hf, fun vs H' W' ev w' rs => .inl ⟨b, ?_, fin H' W' ev w'⟩⟩
        obtain ⟨v, rfl, r⟩ := RepP.one rs
        rw [r.int]
      · refine ⟨W, env, M, _, _, w, re, hf, fun vs H' W' ev w' rs => .inr ⟨a, b, ?_, fin H' W' ev w'⟩⟩
        obtain ⟨v, u, rfl, r, r'⟩ := RepPs.two rs
        rw [r.int, r'.int]
    · cases e
  · cases e
theorem pRngL {a : Expr} {l : List Expr} {p p2 q pos : Pos} (hc : X.calm = true) (hg : Gl X "list") (hm : X.mg "list" = none) (hg2 : Gl X "range") (hm2 : X.mg "range" = none) (ha : PA X (a :: l) (tLP X.K fs)) (hp : (a :: l).all plainE = true) :
    PE X (.Call (.Name "list" p) [.Call (.Name "range" p2) (a :: l) [] q] [] pos) (tE X.K (eRngL fs)) := PE.imp (pe_listRg hc hg hm (prg_X hg2 hm2 ha hp)) fun _ _ _ h => tE_rngL h
theorem pRngT {a : Expr} {l : List Expr} {p p2 q pos : Pos} (hc : X.calm = true) (hg : Gl X "tuple") (hm : X.mg "tuple" = none) (hg2 : Gl X "range") (hm2 : X.mg "range" = none) (ha : PA X (a :: l) (tLP X.K fs)) (hp : (a :: l).all plainE = true) :
    PE X (.Call (.Name "tuple" p) [.Call (.Name "range" p2) (a :: l) [] q] [] pos) (tE X.K (eRngT fs)) := PE.imp (pe_tupRgN hc hg hm (prg_X hg2 hm2 ha hp)) fun _ _ _ h => tE_rngT h
end
end R

set_option Elab.async false
set_option linter.all false
set_option maxRecDepth 100000
set_option maxHeartbeats 4000000
/-! R24: list(zip(x, y)) -/
namespace R
open PySem PySem.Spec PySem.Calls PyProof.Rows L2
section
variable {prog : Program} {w : World} {A : Around} {E : Value → Shared → Prop} {s : Shared} {z TI TO T i1 i2 : Addr} {fp1 fp2 : List Addr} {n1 n2 i : Nat} {P1 P2 : Nat → Value → Prop} {St1 St2 : Nat → Heap → Prop} {f : Bool} {oT : Obj}
theorem zipH_next_item {Q : Value → Shared → Prop} (S : ZipSep2 z TI TO i1 i2 fp1 fp2) (D1 : Draws prog w A i1 fp1 n1 P1 St1) (D2 : Draws prog w A i2 fp2 n2 P2 St2)
    (hz : IsZipHeld s.heap z TI TO T f) (hT : s.heap.get? T = some oT) (hTI : IsTupOf2 s.heap TI (.ref i1) (.ref i2)) (st1 : St1 i s.heap) (st2 : St2 i s.heap) (hlt1 : i < n1) (hlt2 : i < n2)
    (hQ : ∀ x1 x2 h' tk, P1 i x1 → P2 i x2 → IsZipHeld h' z TI TO T true → St1 (i + 1) h' → St2 (i + 1) h' → IsTupOf2 h' s.heap.objs.size x1 x2 → h'.objs.size = s.heap.objs.size + 1 →
      (∀ c o, c ≠ z → c ≠ i1 → c ≠ i2 → s.heap.get? c = some o → h'.get? c = some o) → Q (.ref s.heap.objs.size) { s with heap := h', toks := tk }) :
    wpAny (model prog w) A (Builtin.«zip.__next__» ⟨[.ref z], []⟩) (fun fin s' => ∃ v, fin = .done (.ret v) ∧ Q v s') E s := by
  obtain ⟨hp, g, d, tk0, os⟩ := s
  show wpAny _ _ (field (.ref z) 2 >>= _) _ _ _
  refine wpAny_bind (wpAny_field hz rfl (x := .bool false) rfl ?_)
  show wpAny _ _ (field (.ref z) 3 >>= _) _ _ _
  refine wpAny_bind (wpAny_field hz rfl (x := .ref TI) rfl ?_)
  refine wpAny_bind (wpAny_seqItems hTI rfl ?_)
  show wpAny _ _ (Builtin.SmallTypes.ownedTupleIsFree (.ref z) >>= _) _ _ _
  refine wpAny_bind (wpAny_tupleHeld_zip hz hT fun g0 hz0 hs0 => ?_)
  replace hs0 : Heap.SameBut z hp g0 := hs0
  simp only [Bool.false_eq_true, if_false]
  refine wpAny_bind ?_
  rw [← Array.forIn_toList]
  simp only [List.forIn_cons, List.forIn_nil]
  refine wpAny_bind (wpAny_bind (wpAny_holding ?_))
  show wpAny _ _ (Builtin.SmallTypes.nextOf (.ref i1) >>= _) _ _ ⟨g0, g, d, tk0, os⟩
  refine wpAny_bind (D1.item i _ _ _ hlt1 (D1.over st1 hs0 S.zf1) fun x1 p1 tk1 hx1 sn1 hp1 => wpAny_pure ?_)
  replace hp1 : Heap.SameBut i1 g0 p1 := hp1
  refine wpAny_pure ?_
  refine wpAny_bind (wpAny_bind (wpAny_holding ?_))
  show wpAny _ _ (Builtin.SmallTypes.nextOf (.ref i2) >>= _) _ _ ⟨p1, g, d, tk1, os⟩
  refine wpAny_bind (D2.item i _ _ _ hlt2 (D2.over (D2.over st2 hs0 S.zf2) hp1 S.sep1_2) fun x2 p2 tk2 hx2 sn2 hp2 => wpAny_pure ?_)
  replace hp2 : Heap.SameBut i2 p1 p2 := hp2
  refine wpAny_pure (wpAny_pure ?_)
  show wpAny _ _ (newTuple [x1, x2] >>= _) _ _ _
  refine wpAny_bind (wpAny_newTuple ?_)
  have hsz : p2.objs.size = hp.objs.size := by rw [hp2.1, hp1.1, hs0.1]
  have hz3 : IsZipHeld p2 z TI TO T true := hp2.extBut _ _ S.zi2 (hp1.extBut _ _ S.zi1 hz0)
  have hk : ∀ c o, c ≠ z → c ≠ i1 → c ≠ i2 → hp.get? c = some o → p2.get? c = some o := fun c o c1 c2 c3 e => hp2.extBut _ _ c3 (hp1.extBut _ _ c2 (hs0.extBut _ _ c1 e))
  have hj1 : St1 (i + 1) p2 := D1.over sn1 hp2 S.sep2_1
  refine wpAny_pure ⟨_, rfl, ?_⟩
  show Q (.ref p2.objs.size) _
  have hp' : IsTupOf2 (p2.push { cls := .type "tuple", data := .seq #[x1, x2] }) p2.objs.size x1 x2 := Heap.get?_push_size _ rfl
  have hz4 : (p2.push { cls := .type "tuple", data := .seq #[x1, x2] }).objs.size = p2.objs.size + 1 := Heap.size_push ..
  rw [hsz] at hp' hz4 ⊢
  exact hQ x1 x2 _ _ hx1 hx2 (Heap.get?_push_of_some _ hz3) (D1.frame _ _ _ hj1 fun b _ o e => Heap.get?_push_of_some _ e) (D2.frame _ _ _ sn2 fun b _ o e => Heap.get?_push_of_some _ e) hp' hz4 fun c o c1 c2 c3 e => Heap.get?_push_of_some _ (hk c o c1 c2 c3 e)
theorem zipH_next_end {Q : Fin → Shared → Prop} (S : ZipSep2 z TI TO i1 i2 fp1 fp2) (D1 : Draws prog w A i1 fp1 n1 P1 St1) (D2 : Draws prog w A i2 fp2 n2 P2 St2)
    (hz : IsZipHeld s.heap z TI TO T f) (hT : s.heap.get? T = some oT) (hTI : IsTupOf2 s.heap TI (.ref i1) (.ref i2)) (st1 : St1 i s.heap) (st2 : St2 i s.heap) (hle1 : i ≤ n1) (hle2 : i ≤ n2) (hend : i = n1 ∨ i = n2)
    (hE : ∀ h' tk e, (∀ c o, c ≠ z → c ≠ i1 → c ≠ i2 → s.heap.get? c = some o → h'.get? c = some o) → (∃ o, h'.get? e = some o ∧ o.cls = .type "StopIteration") → E (.ref e) { s with heap := h', toks := tk }) :
    wpAny (model prog w) A (Builtin.«zip.__next__» ⟨[.ref z], []⟩) Q E s := by
  obtain ⟨hp, g, d, tk0, os⟩ := s
  show wpAny _ _ (field (.ref z) 2 >>= _) _ _ _
  refine wpAny_bind (wpAny_field hz rfl (x := .bool false) rfl ?_)
  show wpAny _ _ (field (.ref z) 3 >>= _) _ _ _
  refine wpAny_bind (wpAny_field hz rfl (x := .ref TI) rfl ?_)
  refine wpAny_bind (wpAny_seqItems hTI rfl ?_)
  show wpAny _ _ (Builtin.SmallTypes.ownedTupleIsFree (.ref z) >>= _) _ _ _
  refine wpAny_bind (wpAny_tupleHeld_zip hz hT fun g0 hz0 hs0 => ?_)
  replace hs0 : Heap.SameBut z hp g0 := hs0
  simp only [Bool.false_eq_true, if_false]
  refine wpAny_bind ?_
  rw [← Array.forIn_toList]
  simp only [List.forIn_cons, List.forIn_nil]
  refine wpAny_bind (wpAny_bind (wpAny_holding ?_))
  show wpAny _ _ (Builtin.SmallTypes.nextOf (.ref i1) >>= _) _ _ ⟨g0, g, d, tk0, os⟩
  by_cases hlt1 : i < n1
  · refine wpAny_bind (D1.item i _ _ _ hlt1 (D1.over st1 hs0 S.zf1) fun x1 p1 tk1 hx1 sn1 hp1 => wpAny_pure ?_)
    replace hp1 : Heap.SameBut i1 g0 p1 := hp1
    refine wpAny_pure ?_
    have hi2 : i = n2 := by omega
    refine wpAny_bind (wpAny_bind (wpAny_holding ?_))
    show wpAny _ _ (Builtin.SmallTypes.nextOf (.ref i2) >>= _) _ _ ⟨p1, g, d, tk1, os⟩
    refine wpAny_bind (D2.done ⟨p1, g, d, tk1, os⟩ _ _ (by rw [← hi2]; exact (D2.over (D2.over st2 hs0 S.zf2) hp1 S.sep1_2)) fun q e hq he => ?_)
    replace hq : Heap.ExtBut i2 p1 q := hq
    exact hE q tk1 e (fun c o cz c1 c2 x => hq _ _ c2 (hp1.extBut _ _ c1 (hs0.extBut _ _ cz x))) he
  · have hi1 : i = n1 := by omega
    refine wpAny_bind (D1.done ⟨g0, g, d, tk0, os⟩ _ _ (by rw [← hi1]; exact (D1.over st1 hs0 S.zf1)) fun q e hq he => ?_)
    replace hq : Heap.ExtBut i1 g0 q := hq
    exact hE q tk0 e (fun c o cz c1 c2 x => hq _ _ c1 (hs0.extBut _ _ cz x)) he
theorem pyNext_zipH_item {Q : Option Value → Shared → Prop} (S : ZipSep2 z TI TO i1 i2 fp1 fp2) (D1 : Draws prog w A.in1 i1 fp1 n1 P1 St1) (D2 : Draws prog w A.in1 i2 fp2 n2 P2 St2)
    (hz : IsZipHeld s.heap z TI TO T f) (hT : s.heap.get? T = some oT) (hTI : IsTupOf2 s.heap TI (.ref i1) (.ref i2)) (st1 : St1 i s.heap) (st2 : St2 i s.heap) (hlt1 : i < n1) (hlt2 : i < n2)
    (hQ : ∀ x1 x2 h' tk, P1 i x1 → P2 i x2 → IsZipHeld h' z TI TO T true → St1 (i + 1) h' → St2 (i + 1) h' → IsTupOf2 h' s.heap.objs.size x1 x2 → h'.objs.size = s.heap.objs.size + 1 →
      (∀ c o, c ≠ z → c ≠ i1 → c ≠ i2 → s.heap.get? c = some o → h'.get? c = some o) → Q (some (.ref s.heap.objs.size)) { s with heap := h', toks := tk }) :
    wpAny (model prog w) A (pyNext (.ref z)) Q E s := by
  have hTy : s.TypeIs (.ref z) "zip" := ⟨_, hz, rfl⟩
  unfold pyNext
  exact wpAny_bind (wpAny_attempt (wpAny_callSpecial?_slot (name := Str.ofString "__next__") hTy F.slot_zip_next
    (wpAny_call_entry F.slot_zip_next hTy F.entry_zip_next
      (zipH_next_item S D1 D2 hz hT hTI st1 st2 hlt1 hlt2 fun x1 x2 h' tk y1 y2 b1 d1 d2 b5 b6 b7 => wpAny_pure (hQ x1 x2 h' tk y1 y2 b1 d1 d2 b5 b6 b7)) (F.args_zip_next_1 _))))
theorem pyNext_zipH_end {Q : Option Value → Shared → Prop} (S : ZipSep2 z TI TO i1 i2 fp1 fp2) (D1 : Draws prog w A.in1 i1 fp1 n1 P1 St1) (D2 : Draws prog w A.in1 i2 fp2 n2 P2 St2)
    (hz : IsZipHeld s.heap z TI TO T f) (hT : s.heap.get? T = some oT) (hTI : IsTupOf2 s.heap TI (.ref i1) (.ref i2)) (st1 : St1 i s.heap) (st2 : St2 i s.heap) (hle1 : i ≤ n1) (hle2 : i ≤ n2) (hend : i = n1 ∨ i = n2)
    (hQ : ∀ h' tk, (∀ c o, c ≠ z → c ≠ i1 → c ≠ i2 → s.heap.get? c = some o → h'.get? c = some o) → Q none { s with heap := h', toks := tk }) : wpAny (model prog w) A (pyNext (.ref z)) Q E s := by
  have hTy : s.TypeIs (.ref z) "zip" := ⟨_, hz, rfl⟩
  unfold pyNext
  refine wpAny_bind (wpAny_attempt (wpAny_callSpecial?_slot (name := Str.ofString "__next__") hTy F.slot_zip_next
    (wpAny_call_entry F.slot_zip_next hTy F.entry_zip_next (zipH_next_end S D1 D2 hz hT hTI st1 st2 hle1 hle2 hend fun h' tk e hk he => ?_) (F.args_zip_next_1 _))))
  obtain ⟨o, ho, hc⟩ := he
  refine wpAny_bind (wpAny_isInstance (T := "StopIteration") (b := true) ⟨o, ho, hc⟩ isSubtype_stop ?_)
  exact wpAny_pure (hQ _ _ hk)
end
section
variable {X : Cx} {pins : List (Addr × Obj)} {σ : L2.St} {H : Hp} {s : Shared} {h' : Heap}
/-- our records have turned, and one of them is laid -/
theorem turnedLay {t' : Nat} {ch : List Addr} {T : Addr} {ob : HO} (I : L2.Inv X pins σ H s) (k : ∀ b o, b ∉ ch → s.heap.get? b = some o → h'.get? b = some o) (hf : ∀ b ∈ ch, FpOk X pins H b) (hT : T ∈ ch)
    (new : ObjOk X.prog X.w (upd H T ob) h' T ob) : L2.Inv X pins σ (upd H T ob) { s with heap := h', toks := t' } := by
  have hn : H T = none := (hf T hT).1
  have nit : ∀ b u, H b = some u → b ∉ ch := fun b u e z => by
    have q := (hf b z).1
    rw [q] at e; cases e
  refine I.step (g' := s.gens) (d' := s.drawn) (ch := ch) (fun b hb => ⟨(hf b hb).2.2.2.1, (hf b hb).2.1, (hf b hb).2.2.2.2.1, (hf b hb).2.2.2.2.2⟩) (fun b o _ _ hc e _ => k b o hc e) (fun b o _ _ hc e _ => ⟨o.slots, k b o hc e⟩)
    (fun b o hc e n => ?_) (fun b o hc e => ⟨o, k b o hc e⟩) (fun b xs e => ?_) (fun b o u e => ?_) (fun b ps e => ⟨#[], ?_⟩) (fun m hm => ?_) (fun b u e => ?_) I.bare
  · rw [upd_ne (fun z => hc (by rw [z]; exact hT))]; exact n
  · rw [upd_ne (ne_of_none e hn)]; exact e
  · rw [upd_ne (ne_of_none e hn)]; exact e
  · rw [upd_ne (ne_of_none e hn), e]; simp
  · obtain ⟨o, es, ep, ho, r⟩ := hm
    exact ⟨o, es, ep, k _ o (fun z => (hf _ z).2.1 rfl) ho, r⟩
  · by_cases hb : b = T
    · subst hb
      rw [upd_same] at e
      cases e
      exact new
    · rw [upd_ne hb] at e
      refine (I.hok b u e).stay (fun c v hc q => k c v ?_ q) (fun c q => by rw [upd_ne (ne_of_none q hn)]; exact q) fun c xs q => by rw [upd_ne (ne_of_none q hn)]; exact q
      rcases hc with z | z
      · rw [z]; exact nit b u e
      · exact nit c _ z
end

/-- pairs come into being, one behind the other -/
def zipK : List (V × V) → Hp → (List V → Hp → Prop) → Prop
  | [], H, Q => Q [] H
  | (x, y) :: r, H, Q => ∀ p, H p = none → ∀ o : Obj, o.dict = none → zipK r (upd H p (.frz o (.tup [x, y]))) fun ts H' => Q (.ref p :: ts) H'
theorem zipK_imp {Q Q' : List V → Hp → Prop} (i : ∀ us H, Q us H → Q' us H) : ∀ {l : List (V × V)} {H : Hp}, zipK l H Q → zipK l H Q'
  | [], H, h => i _ _ h
  | (x, y) :: l, H, h => fun p hp o ho => by
    have z := h p hp o ho
    have : ∀ {l : List (V × V)} {H : Hp} {A B : List V → Hp → Prop}, (∀ us H, A us H → B us H) → zipK l H A → zipK l H B := fun {l} => by
      induction l with
      | nil => intro H A B i h; exact i _ _ h
      | cons p l ih => intro H A B i h q hq o' ho'; exact ih (fun us H' => i _ H') (h q hq o' ho')
    exact this (fun us H' => i _ H') z
/-- a zip at turn i, its last pair still there or none given yet -/
def ZSt (b1 b2 : Bool) (z TI TO i1 i2 a c S : Addr) (i : Nat) (h : Heap) : Prop :=
  ((IsZip h z TI TO .none ∧ ∃ x y, IsTupOf2 h TO x y) ∨ ∃ T f oT, IsZipHeld h z TI TO T f ∧ h.get? T = some oT ∧ T ≠ z ∧ T ≠ i1 ∧ T ≠ i2 ∧ T ≠ S) ∧ (∃ o, h.get? TO = some o) ∧ IsTupOf2 h TI (.ref i1) (.ref i2) ∧ ItB b1 h i1 a i ∧ ItB b2 h i2 c i
theorem ZSt.keep {b1 b2 : Bool} {z TI TO i1 i2 a c S : Addr} {i : Nat} {h h' : Heap} (st : ZSt b1 b2 z TI TO i1 i2 a c S i h) (h1 : S ≠ z) (h2 : S ≠ TI) (h3 : S ≠ TO) (h4 : S ≠ i1) (h5 : S ≠ i2) (k : ∀ b o, b ≠ S → h.get? b = some o → h'.get? b = some o) : ZSt b1 b2 z TI TO i1 i2 a c S i h' := by
  obtain ⟨hz, ⟨o3, hO⟩, hTI, p1, p2⟩ := st
  refine ⟨?_, ⟨o3, k _ _ (Ne.symm h3) hO⟩, k _ _ (Ne.symm h2) hTI, itB_at p1 fun o q => k _ o (Ne.symm h4) q, itB_at p2 fun o q => k _ o (Ne.symm h5) q⟩
  rcases hz with ⟨hz, x, y, hTO⟩ | ⟨T, f, oT, hz, hT, n1, n2, n3, n4⟩
  · exact .inl ⟨k _ _ (Ne.symm h1) hz, x, y, k _ _ (Ne.symm h3) hTO⟩
  · exact .inr ⟨T, f, oT, k _ _ (Ne.symm h1) hz, k _ _ n4 hT, n1, n2, n3, n4⟩
theorem sqB_up {K : PySem.W.Frag} {b : Bool} {H : Hp} {p a : Addr} {o : HO} {xs : List V} (hp : H p = none) (h : SqB K b H a xs) : SqB K b (upd H p o) a xs := by
  cases b
  · exact (Le.upd hp).sqT h
  · exact (Le.upd hp).sqL h
theorem zip_loop {X : Cx} {A : Around} (hh : A.handled = none) {pins : List (Addr × Obj)} {σ : L2.St} {R : Result → Shared → Prop} {b1 b2 : Bool} {a c z TI TO i1 i2 S : Addr} (Z : ZAp z TI TO i1 i2 a c) (h1 : S ≠ z) (h2 : S ≠ TI) (h3 : S ≠ TO) (h4 : S ≠ i1) (h5 : S ≠ i2) (res : Value) (xs ys : List V) :
    ∀ (k i : Nat) (s : Shared) (H : Hp) (acc : Array Value) (c0 : Nat) (ts : List V), min xs.length ys.length - i = k → i ≤ min xs.length ys.length → L2.Inv X pins σ H s → (∀ b ∈ [z, TI, TO, i1, i2, S], FpOk X pins H b) → SqB X.K b1 H a xs → SqB X.K b2 H c ys →
      ZSt b1 b2 z TI TO i1 i2 a c S i s.heap → s.heap.get? S = some { cls := .type "list", dict := none, data := .seq acc c0, slots := #[] } → Vals ts acc.toList → ts.length = i → min xs.length ys.length ≤ sizeLine →
      zipK ((xs.zip ys).drop i) H (fun us H' => H' S = none → ∀ s', L2.Inv X pins σ (upd H' S (.lst (ts ++ us))) s' → R (.ok (.ret res)) s') →
      codeAny (model X.prog X.w) A (.builtin "list.extend.loop" ⟨[.ref S, .ref z, res], []⟩) R s := by
  have lz : (xs.zip ys).length = min xs.length ys.length := List.length_zip
  intro k
  induction k with
  | zero =>
    intro i s H acc c0 ts hk hi I hf hqx hqy st hS racc hts hsz q
    obtain ⟨its, rv, p1, _, _⟩ := Inv_b I hqx
    obtain ⟨its2, rv2, p2, _, _⟩ := Inv_b I hqy
    have l1 := rv.length
    have l2 := rv2.length
    have z1 : its.toArray.size = its.length := List.size_toArray
    have z2 : its2.toArray.size = its2.length := List.size_toArray
    have D1 := draws_b (P := X.prog) (w := X.w) (A := A.in1.in1) hh b1 i1 a Z.n1 its.toArray
    have D2 := draws_b (P := X.prog) (w := X.w) (A := A.in1.in1) hh b2 i2 c Z.n2 its2.toArray
    rw [List.drop_eq_nil_of_le (by omega)] at q
    obtain ⟨hzz, ⟨oTO, hTOe⟩, hTI, st1, st2⟩ := st
    refine codeAny_builtin F.entry_extend_loop ?_
    rw [Around.under_plainId F.plain_extend_loop _]
    show wpAny _ A.in1 (pyNext (.ref z) >>= _) _ _ s
    have fin : ∀ h' tk, (∀ d o, d ≠ z → d ≠ TO → d ≠ i1 → d ≠ i2 → s.heap.get? d = some o → h'.get? d = some o) → R (.ok (.ret res)) { s with heap := h', toks := tk } := fun h' tk hk => by
      refine q (hf S (by simp)).1 _ (turnedLay (t' := tk) (ch := [z, TI, TO, i1, i2, S]) I (fun d o hb q => hk d o (fun e => hb (by simp [e])) (fun e => hb (by simp [e])) (fun e => hb (by simp [e])) (fun e => hb (by simp [e])) q) hf (by simp) ?_)
      rw [List.append_nil]
      refine ⟨by rw [hts]; omega, acc.toList, c0, racc, ?_⟩
      exact hk _ _ h1 h3 h4 h5 hS
    rcases hzz with ⟨hz, x, y, hTO⟩ | ⟨T, f, oT, hz, hT, _⟩
    · refine wpAny_bind (wpAny_pyNext_zipD2_end Z.sep D1 D2 hz hTI hTO ⟨st1, p1⟩ ⟨st2, p2⟩ (by omega) (by omega) (by omega) fun h' tk hk => ?_)
      exact wpAny_pure (fin h' tk hk)
    · refine wpAny_bind (pyNext_zipH_end Z.sep D1 D2 hz hT hTI ⟨st1, p1⟩ ⟨st2, p2⟩ (by omega) (by omega) (by omega) fun h' tk hk => ?_)
      exact wpAny_pure (fin h' tk fun d o e1 _ e3 e4 q => hk d o e1 e3 e4 q)
  | succ k ih =>
    intro i s H acc c0 ts hk hi I hf hqx hqy st hS racc hts hsz q
    have hlt : i < min xs.length ys.length := by omega
    obtain ⟨its, rv, p1, _, _⟩ := Inv_b I hqx
    obtain ⟨its2, rv2, p2, _, _⟩ := Inv_b I hqy
    have l1 := rv.length
    have l2 := rv2.length
    have z1 : its.toArray.size = its.length := List.size_toArray
    have z2 : its2.toArray.size = its2.length := List.size_toArray
    have D1 := draws_b (P := X.prog) (w := X.w) (A := A.in1.in1) hh b1 i1 a Z.n1 its.toArray
    have D2 := draws_b (P := X.prog) (w := X.w) (A := A.in1.in1) hh b2 i2 c Z.n2 its2.toArray
    have hx : xs[i]? = some xs[i] := List.getElem?_eq_getElem (by omega)
    have hy : ys[i]? = some ys[i] := List.getElem?_eq_getElem (by omega)
    obtain ⟨u, hu, ru⟩ := rv.get hx
    obtain ⟨u2, hu2, ru2⟩ := rv2.get hy
    have hd : (xs.zip ys).drop i = (xs[i], ys[i]) :: (xs.zip ys).drop (i + 1) := by
      rw [List.drop_eq_getElem_cons (by omega), List.getElem_zip]
    rw [hd] at q
    obtain ⟨hzz, ⟨oTO, hTOe⟩, hTI, st1, st2⟩ := st
    have hacc : acc.size = i := by
      have := racc.length
      rw [hts, Array.length_toList] at this
      exact this.symm
    -- what follows the next
    have fin : ∀ (y1 y2 : Value) (h' : Heap) (tk : Nat), its.toArray[i]? = some y1 → its2.toArray[i]? = some y2 → (∃ T f oT, IsZipHeld h' z TI TO T f ∧ h'.get? T = some oT ∧ T ≠ z ∧ T ≠ i1 ∧ T ≠ i2 ∧ T ≠ S) → (∃ o, h'.get? TO = some o) → ItB b1 h' i1 a (i + 1) → ItB b2 h' i2 c (i + 1) → IsTupOf2 h' s.heap.objs.size y1 y2 → h'.objs.size = s.heap.objs.size + 1 →
        (∀ d o, d ≠ z → d ≠ TO → d ≠ i1 → d ≠ i2 → s.heap.get? d = some o → h'.get? d = some o) →
        wpAny (model X.prog X.w) A.in1 (updateSeq S (·.push (.ref s.heap.objs.size)) >>= fun _ => again (.builtin "list.extend.loop" ⟨[.ref S, .ref z, res], []⟩))
          (fun fin s' => match fin with | .done f => R (.ok f) s' | .again c' => c'.quiet = true ∧ codeAny (model X.prog X.w) A c' R s') (fun e s' => R (.error e) s') { s with heap := h', toks := tk } := fun y1 y2 h' tk e1 e2 hz' hO' st1' st2' hT hsz' hkk => by
      have ey : y1 = u := by
        rw [List.getElem?_toArray, hu] at e1
        exact (Option.some.inj e1).symm
      have ey2 : y2 = u2 := by
        rw [List.getElem?_toArray, hu2] at e2
        exact (Option.some.inj e2).symm
      subst ey ey2
      have hS' := hkk S _ h1 h3 h4 h5 hS
      have hup : ∀ b o, b ≠ S → h'.get? b = some o → (h'.update S (Obj.mapSeq (·.push (.ref s.heap.objs.size)))).get? b = some o := fun b o hb e => (Heap.get?_update_other _ _ (Ne.symm hb)).trans e
      have ne : ∀ {d : Addr} {o}, s.heap.get? d = some o → d ≠ s.heap.objs.size := fun e => Nat.ne_of_lt (Heap.lt_size e)
      have nS : s.heap.objs.size ≠ S := Ne.symm (ne hS)
      have nz : z ≠ s.heap.objs.size := by
        rcases hzz with ⟨hz, _⟩ | ⟨T, f, oT, hz, _⟩ <;> exact ne hz
      have hT2 : (h'.update S (Obj.mapSeq (·.push (.ref s.heap.objs.size)))).get? s.heap.objs.size = some { cls := .type "tuple", data := .seq #[y1, y2] } := hup _ _ nS hT
      have new : ObjOk X.prog X.w (upd H s.heap.objs.size (.frz { cls := .type "tuple", data := .seq #[y1, y2] } (.tup [xs[i], ys[i]]))) (h'.update S (Obj.mapSeq (·.push (.ref s.heap.objs.size)))) s.heap.objs.size (.frz { cls := .type "tuple", data := .seq #[y1, y2] } (.tup [xs[i], ys[i]])) :=
        ⟨hT2, by show 2 ≤ sizeLine; decide, [y1, y2], .cons ru (.cons ru2 .nil), ⟨_, hT2, rfl, _, rfl⟩⟩
      have I1 : L2.Inv X pins σ (upd H s.heap.objs.size (.frz { cls := .type "tuple", data := .seq #[y1, y2] } (.tup [xs[i], ys[i]]))) { s with heap := h'.update S (Obj.mapSeq (·.push (.ref s.heap.objs.size))), toks := tk } :=
        I.turnedNew (t' := tk) (ch := [z, TI, TO, i1, i2, S]) (fun d o hb q => hup d o (fun q' => hb (by simp [q'])) (hkk d o (fun q' => hb (by simp [q'])) (fun q' => hb (by simp [q'])) (fun q' => hb (by simp [q'])) (fun q' => hb (by simp [q'])) q)) hf (Nat.le_refl _) new
      have hHn : H s.heap.objs.size = none := I.hok.fresh (Nat.le_refl _)
      refine wpAny_bind (wpAny_updateSeq hS' rfl (wpAny_pure ⟨plainId_quiet F.plain_extend_loop _, ih (i + 1) _ _ (acc.push (.ref s.heap.objs.size)) _ (ts ++ [.ref s.heap.objs.size]) (by omega) hlt I1 (fun d hd => ?_) ?_ ?_ ?_ (Heap.get?_update_self _ hS' rfl) ?_ ?_ hsz ?_⟩)
        (by rw [hacc]; omega) (by show (acc.push _).size ≤ sizeLine + 1; rw [Array.size_push, hacc]; omega))
      · have e' : d ≠ s.heap.objs.size := by
          have e' : d = z ∨ d = TI ∨ d = TO ∨ d = i1 ∨ d = i2 ∨ d = S := by simpa using hd
          rcases e' with q | q | q | q | q | q
          · rw [q]; exact nz
          · rw [q]; exact ne hTI
          · rw [q]; exact ne hTOe
          · rw [q]; obtain ⟨_, e1, _⟩ := itB_ob st1; exact ne e1
          · rw [q]; obtain ⟨_, e1, _⟩ := itB_ob st2; exact ne e1
          · rw [q]; exact ne hS
        obtain ⟨g1, g2⟩ := hf d hd
        exact ⟨by rw [upd_ne e']; exact g1, g2⟩
      · exact sqB_up hHn hqx
      · exact sqB_up hHn hqy
      · refine ZSt.keep (h := h') ⟨.inr hz', hO', hkk _ _ Z.sep.TIz Z.sep.TITO Z.sep.TIi1 Z.sep.TIi2 hTI, st1', st2'⟩ h1 h2 h3 h4 h5 hup
      · rw [Array.toList_push]
        exact racc.append (.cons rfl .nil)
      · rw [List.length_append, hts]
        rfl
      · have q' := q s.heap.objs.size hHn { cls := .type "tuple", data := .seq #[y1, y2] } rfl
        have en : (fun (us : List V) (H' : Hp) => H' S = none → ∀ s', L2.Inv X pins σ (upd H' S (.lst (ts ++ [.ref s.heap.objs.size] ++ us))) s' → R (.ok (.ret res)) s') = fun us H' => H' S = none → ∀ s', L2.Inv X pins σ (upd H' S (.lst (ts ++ (.ref s.heap.objs.size :: us)))) s' → R (.ok (.ret res)) s' := by
          funext us H'
          rw [List.append_assoc]
          rfl
        rw [en]
        exact q'
    refine codeAny_builtin F.entry_extend_loop ?_
    rw [Around.under_plainId F.plain_extend_loop _]
    show wpAny _ A.in1 (pyNext (.ref z) >>= _) _ _ s
    rcases hzz with ⟨hz, x, y, hTO⟩ | ⟨T, f, oT, hz, hT, n1, n2, n3, n4⟩
    · refine wpAny_bind (wpAny_pyNext_zipD2_item Z.sep D1 D2 hz hTI hTO ⟨st1, p1⟩ ⟨st2, p2⟩ (by omega) (by omega) fun y1 y2 h' tk e1 e2 z' TO' st1' st2' hT hsz' hkk => ?_)
      have ne : ∀ {d : Addr} {o}, s.heap.get? d = some o → s.heap.objs.size ≠ d := fun e => Nat.ne_of_gt (Heap.lt_size e)
      obtain ⟨_, q1, _⟩ := itB_ob st1
      obtain ⟨_, q2, _⟩ := itB_ob st2
      exact fin y1 y2 h' tk e1 e2 ⟨_, false, _, z', hT, ne hz, ne q1, ne q2, ne hS⟩ ⟨_, TO'⟩ st1'.1 st2'.1 hT hsz' hkk
    · refine wpAny_bind (pyNext_zipH_item Z.sep D1 D2 hz hT hTI ⟨st1, p1⟩ ⟨st2, p2⟩ (by omega) (by omega) fun y1 y2 h' tk e1 e2 z' st1' st2' hT' hsz' hkk => ?_)
      exact fin y1 y2 h' tk e1 e2 ⟨T, true, oT, z', hkk _ _ n1 n2 n3 hT, n1, n2, n3, n4⟩ ⟨oTO, hkk _ _ Z.sep.TOz Z.sep.Ti1 Z.sep.Ti2 hTOe⟩ st1'.1 st2'.1 hT' hsz' fun d o e1 _ e3 e4 q => hkk d o e1 e3 e4 q

theorem zip_no_len : typeLookup (.type "zip") "__len__" = pure none := by rw [typeLookup_type, builtinLookup_eq_fast]; kernel_rfl
theorem zip_no_hint : typeLookup (.type "zip") "__length_hint__" = pure none := by rw [typeLookup_type, builtinLookup_eq_fast]; kernel_rfl
/-- list(..) of a new zip -/
theorem call_list_zip {X : Cx} {A : Around} (hh : A.handled = none) {E : Value → Shared → Prop} {pins : List (Addr × Obj)} {σ : L2.St} {s : Shared} {H : Hp} {Q : Value → Shared → Prop} {b1 b2 : Bool} {a c z TI TO i1 i2 : Addr} {x0 y0 : Value} (Z : ZAp z TI TO i1 i2 a c) (xs ys : List V)
    (I : L2.Inv X pins σ H s) (hf : ∀ b ∈ [z, TI, TO, i1, i2], FpOk X pins H b) (hqx : SqB X.K b1 H a xs) (hqy : SqB X.K b2 H c ys) (hz : IsZip s.heap z TI TO .none) (hTO : IsTupOf2 s.heap TO x0 y0) (hTI : IsTupOf2 s.heap TI (.ref i1) (.ref i2)) (st1 : ItB b1 s.heap i1 a 0) (st2 : ItB b2 s.heap i2 c 0)
    (q : zipK (xs.zip ys) H fun us H' => ∀ p, H' p = none → ∀ s', L2.Inv X pins σ (upd H' p (.lst us)) s' → Q (.ref p) s') :
    wpAny (model X.prog X.w) A (call (.type "list") [.ref z]) Q E s := by
  obtain ⟨_, _, _, _, hlx⟩ := Inv_b I hqx
  have ne : ∀ {d : Addr} {o}, s.heap.get? d = some o → s.heap.objs.size ≠ d := fun e => Nat.ne_of_gt (Heap.lt_size e)
  obtain ⟨_, q1, _⟩ := itB_ob st1
  obtain ⟨_, q2, _⟩ := itB_ob st2
  have n1 : s.heap.objs.size ≠ z := ne hz
  have n2 : s.heap.objs.size ≠ TI := ne hTI
  have n3 : s.heap.objs.size ≠ TO := ne hTO
  have n4 : s.heap.objs.size ≠ i1 := ne q1
  have n5 : s.heap.objs.size ≠ i2 := ne q2
  refine callType_codes (Q₁ := fun obj s₁ => obj = .ref s.heap.objs.size ∧ s₁ = { s with heap := s.heap.push { cls := .type "list", data := .seq #[] } }) F.called_list (F.typeCall_list_1 _) F.entry_list_init
    (code_list_new _ ⟨rfl, rfl⟩) fun obj s₁ h₁ => ?_
  obtain ⟨rfl, rfl⟩ := h₁
  have hS : (s.heap.push { cls := .type "list", data := .seq #[] }).get? s.heap.objs.size = some { cls := .type "list", data := .seq #[] } := Heap.get?_push_size _ rfl
  have up0 : ∀ b o, s.heap.get? b = some o → (s.heap.push { cls := .type "list", data := .seq #[] }).get? b = some o := fun b o e => Heap.get?_push_of_some _ e
  have hfS : FpOk X pins H s.heap.objs.size := I.fpOk (Nat.le_refl _) (I.hok.fresh (Nat.le_refl _))
  have I0 : L2.Inv X pins σ H { s with heap := s.heap.push { cls := .type "list", data := .seq #[] } } := I.kept (t' := s.toks) up0
  generalize (s.heap.push { cls := .type "list", data := .seq #[] }) = h0 at hS up0 I0
  generalize s.heap.objs.size = S at *
  refine ⟨⟨_, hS, rfl⟩, F.args_list_init_2 _ _, ?_⟩
  have hzT : ∀ {h : Heap}, IsZip h z TI TO .none → ({ s with heap := h } : Shared).TypeIs (.ref z) "zip" := fun e => ⟨_, e, rfl⟩
  show wpAny _ A.in1.in1 (do let old ← Builtin.List.listItems (.ref S); Builtin.List.listUpdate (.ref S) (fun _ => #[]); letGo old.toList.reverse; Builtin.List.listExtendWith (.ref S) (.ref z) .none) _ _ { s with heap := h0 }
  refine wpAny_bind ?_
  unfold Builtin.List.listItems
  refine wpAny_bind (wpAny_seqItems hS rfl (wpAny_pure ?_))
  show wpAny _ A.in1.in1 (updateSeq S (fun _ => #[]) >>= fun _ => letGo (#[] : Array Value).toList.reverse >>= fun _ => Builtin.List.listExtendWith (.ref S) (.ref z) .none) _ _ { s with heap := h0 }
  refine wpAny_bind (wpAny_updateSeq hS rfl ?_)
  have hS2 := Heap.get?_update_self (Obj.mapSeq (fun _ => (#[] : Array Value))) hS rfl
  have oth : ∀ b o, b ≠ S → h0.get? b = some o → (h0.update S (Obj.mapSeq (fun _ => (#[] : Array Value)))).get? b = some o :=
    fun b o hb e => (Heap.get?_update_other _ _ (Ne.symm hb)).trans e
  generalize (h0.update S (Obj.mapSeq (fun _ => (#[] : Array Value)))) = h1 at hS2 oth
  refine wpAny_bind (wpAny_letGo ?_)
  have hz1 : IsZip h1 z TI TO .none := oth _ _ (Ne.symm n1) (up0 _ _ hz)
  unfold Builtin.List.listExtendWith
  refine wpAny_bind (wpAny_typeOf (hzT hz1) ?_)
  have g1 : Builtin.List.listSameRef (.ref S) (.ref z) = false := by simp [Builtin.List.listSameRef, n1]
  have g2 : (Value.type "zip" == Value.type "list") = false := by decide
  have g3 : (Value.type "zip" == Value.type "tuple") = false := by decide
  simp only [g1, g2, g3, Bool.or_false, Bool.false_eq_true, if_false]
  refine wpAny_bind (wpAny_pyIter_zip hz1 ?_)
  refine wpAny_bind (wpAny_holding ?_)
  unfold Builtin.List.listLengthHint
  refine wpAny_bind (wpAny_specialOf (hzT hz1) zip_no_len ?_)
  show wpAny _ A.in1.in1 (specialOf (Value.ref z) (Str.ofString "__length_hint__") >>= _) _ _ _
  refine wpAny_bind (wpAny_specialOf (hzT hz1) zip_no_hint ?_)
  refine wpAny_pure ?_
  show wpAny _ A.in1.in1 (rule "list.extend.makes-room" >>= fun _ => Builtin.List.listTouch (.ref S) >>= fun _ =>
    again (.builtin "list.extend.loop" ⟨[.ref S, .ref z, .none], []⟩)) _ _ _
  refine wpAny_bind (wpAny_rule ?_)
  refine wpAny_bind ?_
  show wpAny _ A.in1.in1 (updateSeq S (·.push .none) >>= fun _ => updateSeq S (·.pop)) _ _ _
  refine wpAny_bind (wpAny_updateSeq hS2 rfl ?_)
  have hS3 := Heap.get?_update_self (Obj.mapSeq (·.push Value.none)) hS2 rfl
  refine wpAny_updateSeq (hz := by seq_fits) hS3 rfl ?_
  have hS4 := Heap.get?_update_self (Obj.mapSeq (·.pop)) hS3 rfl
  have oth2 : ∀ b o, b ≠ S → h0.get? b = some o → ((h1.update S (Obj.mapSeq (·.push Value.none))).update S (Obj.mapSeq (·.pop))).get? b = some o :=
    fun b o hb e => (Heap.get?_update_other _ _ (Ne.symm hb)).trans ((Heap.get?_update_other _ _ (Ne.symm hb)).trans (oth b o hb e))
  have oth3 : ∀ b o, b ≠ S → s.heap.get? b = some o → ((h1.update S (Obj.mapSeq (·.push Value.none))).update S (Obj.mapSeq (·.pop))).get? b = some o := fun b o hb e => oth2 b o hb (up0 b o e)
  have I2 : L2.Inv X pins σ H { s with heap := (h1.update S (Obj.mapSeq (·.push Value.none))).update S (Obj.mapSeq (·.pop)) } := L2.Inv.turnedL (s := { s with heap := h0 }) (t' := s.toks) (ch := [S]) I0 (fun b o hb e => oth2 b o (fun z => hb (by simp [z])) e) (fun b hb => by rw [List.mem_singleton.mp hb]; exact hfS)
  generalize ((h1.update S (Obj.mapSeq (·.push Value.none))).update S (Obj.mapSeq (·.pop))) = h2 at hS4 oth3 I2
  refine wpAny_pure ⟨plainId_quiet F.plain_extend_loop _, zip_loop (A := A.in1) hh Z n1 n2 n3 n4 n5 .none xs ys (min xs.length ys.length) 0 _ H _ _ [] rfl (Nat.zero_le _) I2 (fun b hb => ?_) hqx hqy ?_ hS4 .nil rfl ?_ ?_⟩
  · rw [List.mem_cons, List.mem_cons, List.mem_cons, List.mem_cons, List.mem_cons, List.mem_singleton] at hb
    rcases hb with h | h | h | h | h | h
    · exact hf b (by simp [h])
    · exact hf b (by simp [h])
    · exact hf b (by simp [h])
    · exact hf b (by simp [h])
    · exact hf b (by simp [h])
    · rw [h]; exact hfS
  · exact ⟨.inl ⟨oth3 _ _ (Ne.symm n1) hz, _, _, oth3 _ _ (Ne.symm n3) hTO⟩, ⟨_, oth3 _ _ (Ne.symm n3) hTO⟩, oth3 _ _ (Ne.symm n2) hTI, itB_at st1 fun o q => oth3 _ o (Ne.symm n4) q, itB_at st2 fun o q => oth3 _ o (Ne.symm n5) q⟩
  · omega
  · rw [List.drop_zero]
    have en : (fun (us : List V) (H' : Hp) => H' S = none → ∀ s', L2.Inv X pins σ (upd H' S (.lst ([] ++ us))) s' → wants (fun r s₂ => r = .none ∧ Q (.ref S) s₂) E (.ok (.ret .none)) s') = fun us H' => H' S = none → ∀ s', L2.Inv X pins σ (upd H' S (.lst us)) s' → (Value.none = .none ∧ Q (.ref S) s') := by
      funext us H'
      rfl
    rw [en]
    exact zipK_imp (fun us H' h hn s' I' => ⟨rfl, h S hn s' I'⟩) q

def tLstZip (K : PySem.W.Frag) (ta : TA) : TE := fun σ H Q => ta σ H fun vs H1 => ∃ a c b1 b2 xs ys, vs = [.ref a, .ref c] ∧ SqB K b1 H1 a xs ∧ SqB K b2 H1 c ys ∧ zipK (xs.zip ys) H1 fun us H' => ∀ p, H' p = none → Q (.ref p) (upd H' p (.lst us))
theorem pe_lstZip {X : Cx} {e e2 : Expr} {ta : TA} {p p2 q pos : Pos} (hc : X.calm = true) (hg : Gl X "list") (hm : X.mg "list" = none) (hg2 : Gl X "zip") (hm2 : X.mg "zip" = none) (ha : PA X [e, e2] ta) (hp : plainE e = true) (hp2 : plainE e2 = true) :
    PE X (.Call (.Name "list" p) [.Call (.Name "zip" p2) [e, e2] [] q] [] pos) (tLstZip X.K ta) := by
  refine ⟨fun pins s σ H Q I h => ?_⟩
  refine wpAny_Call_Name_kw (ld_blt I hg hm boot_list (PyProof.Rows.callWith_type1 (PyProof.Rows.args_cons (?_) (by rfl)) (by rfl)))
  refine wpAny_Call_Name_kw (ld_blt I hg2 hm2 PyProof.Rows.boot_zip (PyProof.Rows.callWith_type1 (thn (ha.run q pins s σ H _ I h) fun us s1 ⟨vs, H1, I1, r1, q1⟩ => ?_) (star_cons hp) (back_any (by rw [List.all_cons, hp2]; rfl))))
  obtain ⟨a, c, b1, b2, xs, ys, rfl, hqx, hqy, q⟩ := q1
  cases r1 with
  | cons r rr =>
    cases rr with
    | cons r' rr =>
      cases rr
      cases r
      cases r'
      obtain ⟨its, rv, p1, l1, _⟩ := Inv_b I1 hqx
      obtain ⟨its2, rv2, p2, l2, _⟩ := Inv_b I1 hqy
      refine zip_begins2 (begins_b b1 a its.toArray) (begins_b b2 c its2.toArray) p1 p2 fun h' hz hTI hTO h1 h2 hsz hk => PyProof.Rows.args_nil ?_
      have I2 : L2.Inv X pins σ H1 { s1 with heap := h' } := I1.kept (t' := s1.toks) hk
      refine call_list_zip (I1.ok.hd hc) (ZAp.mk (zip_sep2 (fp1 := [a]) (fp2 := [c]) (fun b hb => by rw [List.mem_singleton.mp hb]; exact l1) (fun b hb => by rw [List.mem_singleton.mp hb]; exact l2)) (Nat.ne_of_lt l1) (Nat.ne_of_lt (Nat.lt_succ_of_lt l2))) xs ys I2 (fun d hcm => ?_) hqx hqy hz hTO hTI (itB_new h1) (itB_new h2) (zipK_imp (fun us H' h p hp s' I' => ⟨.ref p, _, I', rfl, h p hp⟩) q)
      have e' : d = s1.heap.objs.size + 4 ∨ d = s1.heap.objs.size + 2 ∨ d = s1.heap.objs.size + 3 ∨ d = s1.heap.objs.size ∨ d = s1.heap.objs.size + 1 := by simpa using hcm
      have hle : s1.heap.objs.size ≤ d := by
        rcases e' with z | z | z | z | z
        · rw [z]; exact Nat.le_add_right _ _
        · rw [z]; exact Nat.le_add_right _ _
        · rw [z]; exact Nat.le_add_right _ _
        · rw [z]; exact Nat.le_refl _
        · rw [z]; exact Nat.le_add_right _ _
      exact I1.fpOk hle (I1.hok.fresh hle)
def eZipL (fs : EL) : EE := fun env M => match iZipD fs env M with
  | some (ds, M1) => some ((.lst ds, true), M1)
  | none => none
theorem zipK_rep {K : PySem.W.Frag} {M : List MO} {Q : List V → Hp → Prop} : ∀ {vs us : List V} {ds es : List D} {W : Wd} {H : Hp}, Rw K W M H → RepsW K W vs ds → RepsW K W us es →
    (∀ ts H' W', Evo W W' → Rw K W' M H' → RepsW K W' ts (zipD ds es) → Q ts H') → zipK (vs.zip us) H Q
  | _, _, _, _, W, H, w, .nil, _, q => q _ _ W (Evo.refl W) w .nil
  | _, _, _, _, W, H, w, .cons _ _, .nil, q => q _ _ W (Evo.refl W) w .nil
  | _, _, _, _, W, H, w, .cons h1 r1, .cons h2 r2, q => fun p hp o ho => by
    obtain ⟨W3, e3, w3, r3⟩ := w.newT hp o ho (.cons h1 (.cons h2 .nil))
    exact zipK_rep w3 (r1.evo e3) (r2.evo e3) fun ts H' W' e4 w4 r4 => q _ _ W' (e3.trans e4) w4 (.cons (r3.evo e4) r4)
theorem pZipL {X : Cx} {e e2 : Expr} {fs : EL} {p p2 q pos : Pos} (hc : X.calm = true) (hg : Gl X "list") (hm : X.mg "list" = none) (hg2 : Gl X "zip") (hm2 : X.mg "zip" = none) (ha : PA X [e, e2] (tLP X.K fs)) (hp : plainE e = true) (hp2 : plainE e2 = true) :
    PE X (.Call (.Name "list" p) [.Call (.Name "zip" p2) [e, e2] [] q] [] pos) (tE X.K (eZipL fs)) := PE.imp (pe_lstZip hc hg hm hg2 hm2 ha hp hp2) fun σ H Q h => by
  obtain ⟨W, env, M, r, M', w, re, e, qq⟩ := h
  unfold eZipL at e
  split at e
  · rename_i ds M1 hz
    cases e
    obtain ⟨x, y, xs, ys, e1, e2, e3, rfl⟩ := zip_some hz
    refine ⟨W, env, M, _, _, w, re, e1, fun vs H' W' ev w' r => ?_⟩
    obtain ⟨v, u, rfl, rv, ru⟩ := r.two
    obtain ⟨a, vs, rfl, h1, r1⟩ := rv.seqB w' e2
    obtain ⟨c, us, rfl, h2, r2⟩ := ru.seqB w' e3
    refine ⟨a, c, _, _, vs, us, rfl, h1, h2, zipK_rep w' r1 r2 fun ts H2 W2 e4 w2 r4 p hp => ?_⟩
    obtain ⟨w3, r3⟩ := w2.newL hp (.lst r4)
    exact qq _ _ _ (ev.trans e4) w3 r3
  · cases e
end R

set_option Elab.async false
set_option linter.all false
set_option maxRecDepth 100000
set_option maxHeartbeats 4000000
/-! R25: dicts with ints and texts as keys -/
namespace R
open PySem PySem.Spec PySem.Calls PyProof.Rows L2
/-! ### {} -/
def eDct0 : EE := fun _ M => some ((.dct [] [], true), M)
theorem pDct0 {X : Cx} {pos : Pos} : PE X (.Dict [] [] pos) (tE X.K eDct0) := PE.imp pe_dnewK fun σ H Q h => by
  obtain ⟨W, env, M, r, M', w, re, e, q⟩ := h
  cases e
  intro p hp
  obtain ⟨w3, r3⟩ := w.newL hp (o := .dK []) (.dct (kvs := []) .nil)
  exact q _ _ _ (Evo.refl W) w3 r3
/-! ### dict(x) -/
section
variable {X : Cx}
theorem call_dictT (hcalm : X.calm = true) : CallR X (.type "dict") (fun xs H Q => ∃ (a : Addr) (ps : List Addr) (kvs : List (Key × V)), xs = [.ref a] ∧ SqT X.K H a (ps.map V.ref) ∧ NoD X.K H a ∧ Paired (fun p kv => SqT X.K H p [kV kv.1, kv.2]) ps kvs ∧
    ∀ p, H p = none → Q (.ref p) (upd H p (.dK (mergeK [] kvs)))) := by
  classical
  intro pins s σ H xs us Q I r q
  obtain ⟨a, ps, kvs, ex, hq, hn, hp, q⟩ := q
  subst ex
  obtain ⟨u, eu, rx⟩ := vals1 r
  subst eu
  cases rx
  obtain ⟨its, rv, ⟨o, ho, hc, n, hdat⟩, hz⟩ := I.tuple hq
  obtain ⟨o', ho', hd⟩ := hn.at_ I
  rw [ho] at ho'
  cases ho'
  have ei := refs_at rv
  subst ei
  rw [List.length_map] at hz
  obtain ⟨prs, rel, hl, hpr⟩ := pairs_of I hp
  have key : ∀ (j : Nat) (q : Key × Value), prs[j]? = some q → ∃ u, (∃ b, ps[j]? = some b ∧ IsTup s.heap b #[u, q.2]) ∧ keyIs q.1 u = true := fun j q e => by
    obtain ⟨b, u, e1, e2, e3⟩ := hpr j q e
    exact ⟨u, ⟨b, e1, e2⟩, e3⟩
  let kk : Nat → Value := fun j => match prs[j]? with
    | some q => if h : ∃ u, (∃ b, ps[j]? = some b ∧ IsTup s.heap b #[u, q.2]) ∧ keyIs q.1 u = true then h.choose else .none
    | none => .none
  have hkk : ∀ (j : Nat) (q : Key × Value), prs[j]? = some q → (∃ b, ps[j]? = some b ∧ IsTup s.heap b #[kk j, q.2]) ∧ keyIs q.1 (kk j) = true := fun j q e => by
    have h := key j q e
    have ek : kk j = h.choose := by
      show (match prs[j]? with
        | some q => if h : ∃ u, (∃ b, ps[j]? = some b ∧ IsTup s.heap b #[u, q.2]) ∧ keyIs q.1 u = true then h.choose else .none
        | none => .none) = _
      rw [e]
      dsimp only
      rw [dif_pos h]
    rw [ek]
    exact h.choose_spec
  let vps : List (Value × Value) := prs.mapIdx fun j q => (kk j, q.2)
  have hvl : vps.length = prs.length := List.length_mapIdx
  have hvg : ∀ (j : Nat) (k v : Value), vps[j]? = some (k, v) → ∃ q, prs[j]? = some q ∧ k = kk j ∧ v = q.2 := fun j k v e => by
    have e' : (prs.mapIdx fun j q => (kk j, q.2))[j]? = some (k, v) := e
    rw [List.getElem?_mapIdx] at e'
    obtain ⟨q, h1, h2⟩ := Option.map_eq_some_iff.mp e'
    cases h2
    exact ⟨q, h1, rfl, rfl⟩
  refine PySem.call_dict_pairs (knd := mixKind X.prog X.w) (kvs := prs) (PairArg.tuple a (ps.map Value.ref).toArray (fun j => (ps[j]?).getD 0) vps) (I.ok.hd hcalm) ⟨⟨o, n, ho, hc, hd, hdat⟩, ?_, fun j k v e => ?_⟩ ⟨?_, fun i k v e => ?_⟩ (by omega) fun h' tk hd' k => ?_
  · rw [List.size_toArray, List.length_map, hvl, hl]
  · obtain ⟨q, h1, rfl, rfl⟩ := hvg j k v e
    obtain ⟨⟨b, hb, ht⟩, _⟩ := hkk j q h1
    have eb : (ps[j]?).getD 0 = b := by rw [hb]; rfl
    show (ps.map Value.ref).toArray[j]? = some (.ref ((ps[j]?).getD 0)) ∧ PairAt s.heap ((ps[j]?).getD 0) (kk j) q.2
    rw [eb]
    refine ⟨by rw [List.getElem?_toArray, List.getElem?_map, hb]; rfl, .inl ?_⟩
    obtain ⟨ob, g1, g2, m, g3⟩ := ht
    exact ⟨ob, g1, g2, m, g3⟩
  · exact hvl.symm
  · obtain ⟨q, h1, rfl, rfl⟩ := hvg i k v e
    exact ⟨q.1, h1, (hkk i q h1).2⟩
  · have hm : (s.heap.objs.size == sysModules) = false := beq_eq_false_iff_ne.mpr (Nat.ne_of_gt I.big)
    have hlen : (mergeK [] kvs).length ≤ sizeLine := by
      refine Nat.le_trans (length_mergeK kvs []) ?_
      rw [List.length_nil, Nat.zero_add, rel.length, hl]
      exact hz
    exact ⟨.ref s.heap.objs.size, upd H s.heap.objs.size (.dK (mergeK [] kvs)), I.laid (t' := tk) (fun b o e => k b o (by simp) e) (Nat.le_refl _) (show ObjOk X.prog X.w _ _ _ (.dK (mergeK [] kvs)) from ⟨hlen, hm, merged [] prs, KV.merge rel .nil, hd'⟩), rfl, q _ (I.hok.fresh (Nat.le_refl _))⟩
end
/-- pairs (key, value) of tuples -/
def dctPairs : List D → Option (List (Key × D))
  | [] => some []
  | .tup [k, v] :: r => match k.key, dctPairs r with
    | some k, some l => some ((k, v) :: l)
    | _, _ => none
  | _ => none
def dctMerge (l : List (Key × D)) (ks : List Key) (ds : List D) : List Key × List D := l.foldl (fun acc p => dctPut acc.1 acc.2 p.1 p.2) (ks, ds)
theorem merge_rep {K : PySem.W.Frag} {G : Hp} {al : List Addr} : ∀ {l : List (Key × D)} {more kvs : List (Key × V)} {ds : List D}, more.map (·.1) = l.map (·.1) → Reps K G al (more.map (·.2)) (l.map (·.2)) → Reps K G al (kvs.map (·.2)) ds →
    (dctMerge l (kvs.map (·.1)) ds).1 = (mergeK kvs more).map (·.1) ∧ Reps K G al ((mergeK kvs more).map (·.2)) (dctMerge l (kvs.map (·.1)) ds).2
  | [], [], kvs, ds, _, _, r => ⟨rfl, r⟩
  | [], _ :: _, _, _, h, _, _ => by cases h
  | _ :: _, [], _, _, h, _, _ => by cases h
  | q :: l, p :: more, kvs, ds, h, rm, r => by
    rw [List.map_cons, List.map_cons] at h rm
    obtain ⟨h1, h2⟩ := List.cons.inj h
    cases rm with
    | cons r1 rs =>
      obtain ⟨e1, e2⟩ := put_rep (k := p.1) (v := p.2) (e := q.2) r r1
      show (dctMerge l (dctPut (kvs.map (·.1)) ds q.1 q.2).1 (dctPut (kvs.map (·.1)) ds q.1 q.2).2).1 = (mergeK (putK kvs p.1 p.2) more).map (·.1) ∧ Reps K G al ((mergeK (putK kvs p.1 p.2) more).map (·.2)) (dctMerge l (dctPut (kvs.map (·.1)) ds q.1 q.2).1 (dctPut (kvs.map (·.1)) ds q.1 q.2).2).2
      rw [← h1, e1]
      exact merge_rep h2 rs e2
theorem pairs_rep {K : PySem.W.Frag} {W : Wd} {M : List MO} {H : Hp} (w : Rw K W M H) : ∀ {ds : List D} {vs : List V} {l : List (Key × D)}, dctPairs ds = some l → RepsW K W vs ds →
    ∃ (ps : List Addr) (kvs : List (Key × V)), vs = ps.map V.ref ∧ Paired (fun p kv => SqT K H p [kV kv.1, kv.2]) ps kvs ∧ kvs.map (·.1) = l.map (·.1) ∧ RepsW K W (kvs.map (·.2)) (l.map (·.2))
  | [], _, _, h, .nil => by
    cases h
    exact ⟨[], [], rfl, .nil, rfl, .nil⟩
  | d :: r, _, l, h, .cons rd rs => by
    unfold dctPairs at h
    split at h
    · rename_i e
      cases e
    · rename_i k v r' e
      cases e
      split at h
      · rename_i k' l' hk hl
        cases h
        obtain ⟨ps, kvs, e1, e2, e3, e4⟩ := pairs_rep w hl rs
        cases rd with
        | tup ht hn rt =>
          rename_i a us
          cases rt with
          | cons rk rt =>
            cases rt with
            | cons rv rt =>
              cases rt
              have ek := RepP.key (.fz rk) hk
              subst ek
              exact ⟨a :: ps, (k', _) :: kvs, by rw [e1]; rfl, .cons (w.g.sqT ht) e2, by rw [List.map_cons, List.map_cons, e3], .cons rv e4⟩
      · cases h
    · cases h
def dDict : OpN
  | [.dct ks ds] => some (.dct ks ds, true)
  | [.tup xs] => (dctPairs xs).map fun l => (.dct (dctMerge l [] []).1 (dctMerge l [] []).2, true)
  | [.lst xs] => (dctPairs xs).map fun l => (.dct (dctMerge l [] []).1 (dctMerge l [] []).2, true)
  | [.scr xs] => (dctPairs xs).map fun l => (.dct (dctMerge l [] []).1 (dctMerge l [] []).2, true)
  | _ => none
def rDictX (K : PySem.W.Frag) : List V → Hp → VK → Prop := fun xs H Q => (∃ (a : Addr) (kvs : List (Key × V)), xs = [.ref a] ∧ Rd H a (.dK kvs) ∧ ∀ p, H p = none → Q (.ref p) (upd H p (.dK kvs))) ∨
  ((∃ (a : Addr) (ps : List Addr) (kvs : List (Key × V)), xs = [.ref a] ∧ SqL K H a (ps.map V.ref) ∧ Paired (fun p kv => SqT K H p [kV kv.1, kv.2]) ps kvs ∧ ∀ p, H p = none → Q (.ref p) (upd H p (.dK (mergeK [] kvs)))) ∨
   (∃ (a : Addr) (ps : List Addr) (kvs : List (Key × V)), xs = [.ref a] ∧ SqT K H a (ps.map V.ref) ∧ NoD K H a ∧ Paired (fun p kv => SqT K H p [kV kv.1, kv.2]) ps kvs ∧ ∀ p, H p = none → Q (.ref p) (upd H p (.dK (mergeK [] kvs)))))
theorem cr_dict {X : Cx} (hc : X.calm = true) : CallR X (.type "dict") (rDictX X.K) := by
  intro pins s σ H xs us Q I r q
  rcases q with q | q | q
  · exact call_dictD pins s σ H xs us Q I r q
  · exact call_dictP hc pins s σ H xs us Q I r q
  · exact call_dictT hc pins s σ H xs us Q I r q
theorem ok_dict {K : PySem.W.Frag} : OkN K (rDictX K) dDict := by
  intro W M H x d res Q w rs h q
  have fin : ∀ {kvs : List (Key × V)} {l : List (Key × D)}, kvs.map (·.1) = l.map (·.1) → RepsW K W (kvs.map (·.2)) (l.map (·.2)) → res = (.dct (dctMerge l [] []).1 (dctMerge l [] []).2, true) → ∀ p, H p = none → Q (.ref p) (upd H p (.dK (mergeK [] kvs))) := fun {kvs l} e1 e2 e3 p hp => by
    obtain ⟨g1, g2⟩ := merge_rep (kvs := []) (ds := []) e1 e2 .nil
    subst e3
    obtain ⟨w3, r3⟩ := w.newL hp (.dct g2)
    refine q _ _ _ (Evo.refl W) w3 ?_
    rw [show (dctMerge l [] []).1 = (mergeK [] kvs).map (·.1) from g1]
    exact r3
  unfold dDict at h
  split at h
  · cases h
    obtain ⟨v, rfl, r⟩ := RepP.one rs
    obtain ⟨a, kvs, rfl, h1, rfl, r1⟩ := r.dct w
    refine .inl ⟨a, kvs, rfl, .inl h1, fun p hp => ?_⟩
    obtain ⟨w3, r3⟩ := w.newL hp (.dct r1)
    exact q _ _ _ (Evo.refl W) w3 r3
  · obtain ⟨l, hl, e⟩ := Option.map_eq_some_iff.mp h
    obtain ⟨v, rfl, r⟩ := RepP.one rs
    cases r with
    | fz r => cases r with
      | tup h1 hn r1 =>
        obtain ⟨ps, kvs, rfl, g2, g3, g4⟩ := pairs_rep w hl r1
        exact .inr (.inr ⟨_, ps, kvs, rfl, w.g.sqT h1, w.g.noD hn, g2, fin g3 g4 e.symm⟩)
    | own hh rr => cases rr
  · obtain ⟨l, hl, e⟩ := Option.map_eq_some_iff.mp h
    obtain ⟨v, rfl, r⟩ := RepP.one rs
    obtain ⟨a, vs, rfl, h1, r1⟩ := r.lst w
    obtain ⟨ps, kvs, rfl, g2, g3, g4⟩ := pairs_rep w hl r1
    exact .inr (.inl ⟨_, ps, kvs, rfl, .inl (.inl h1), g2, fin g3 g4 e.symm⟩)
  · obtain ⟨l, hl, e⟩ := Option.map_eq_some_iff.mp h
    obtain ⟨v, rfl, r⟩ := RepP.one rs
    obtain ⟨a, vs, rfl, h1, r1⟩ := r.scr w
    obtain ⟨ps, kvs, rfl, g2, g3, g4⟩ := pairs_rep w hl r1
    exact .inr (.inl ⟨_, ps, kvs, rfl, h1, g2, fin g3 g4 e.symm⟩)
  · cases h
/-! ### d.get(k, x) -/
def eGet2 (fa fb fc : EP) : EE := fun env M => match fa env M with
  | some (.dct ks ds, M1) => match fb env M1 with
    | some (y, M2) => match fc env M2 with
      | some (z, M3) => match y.key with
        | some k => some (((dctGet ks ds k).getD z, false), M3)
        | none => none
      | none => none
    | none => none
  | _ => none
theorem tE_get2 {K : PySem.W.Frag} {fa fb fc : EP} {σ : L2.St} {H : Hp} {Q : VK} (h : tE K (eGet2 fa fb fc) σ H Q) : tDGet2 (tP K fa) (tP K fb) (tF K fc) σ H Q := by
  obtain ⟨W, env, M, r, M', w, re, e, q⟩ := h
  unfold eGet2 at e
  split at e
  · rename_i ks ds M1 h1
    split at e
    · rename_i y M2 h2
      split at e
      · rename_i z M3 h3
        split at e
        · rename_i k hk
          cases e
          refine ⟨W, env, M, _, M1, w, re, h1, fun v H1 W1 e1 w1 r1 => ?_⟩
          obtain ⟨a, kvs, rfl, g1, eks, rs⟩ := r1.dct w1
          refine ⟨a, rfl, .inl ⟨kvs, .inl g1⟩, W1, env, M1, y, M2, w1, re.evo e1, h2, fun u H2 W2 e2 w2 r2 => ⟨W2, env, M2, z, _, w2, (re.evo e1).evo e2, h3, fun x H3 W3 e3 w3 r3 => ?_⟩⟩
          obtain ⟨a', kvs', ea, g3, eks', rs'⟩ := ((r1.evo e2).evo e3).dct w3
          cases ea
          refine ⟨valV kvs' k, ?_, ?_⟩
          · rw [(r2.evo e3).key hk]
            exact DGet.k g3
          · rw [eks'] at q
            cases hg : dctGet (kvs'.map (·.1)) ds k with
            | none =>
              rw [dctGet_none rs' hg]
              rw [hg] at q
              exact q _ _ _ ((e1.trans e2).trans e3) w3 (.old r3)
            | some d =>
              obtain ⟨v, ev, rv⟩ := dctGet_some rs' hg
              rw [ev]
              rw [hg] at q
              exact q _ _ _ ((e1.trans e2).trans e3) w3 (.old rv)
        · cases e
      · cases e
    · cases e
  · cases e
theorem pGet2 {X : Cx} {o e f : Expr} {apos cpos : Pos} {fa fb fc : EP} (hu : X.A.units + 70 < cLine) (ho : PE X o (tP X.K fa)) (he : PE X e (tP X.K fb)) (hf : PE X f (tF X.K fc)) (hp : plainE e = true) (hp2 : plainE f = true) (hat : attributeBase o "get" X.env (eval o X.env) = eval o X.env) (hline : (apos.endLine == cpos.line) = true) :
    PE X (.Call (.Attribute o "get" apos) [e, f] [] cpos) (tE X.K (eGet2 fa fb fc)) := by
  refine PE.imp (pe_dget2 (by omega) ho he hf ⟨hat, ?_, hline, ?_⟩) fun _ _ _ h => tE_get2 h
  · rw [star_cons hp, star_cons hp2]
    rfl
  · rw [star_cons hp, star_cons hp2]
    rfl
end R

set_option Elab.async false
set_option linter.all false
set_option maxRecDepth 100000
set_option maxHeartbeats 2000000
/-! R28: three at once; the least and the greatest of data -/
namespace R
open PySem PySem.Spec PyProof.Rows L2
/-! ### a, b, c = x, y, z -/
/-- a value that waits to be stored -/
def Pend (K : PySem.W.Frag) (W : Wd) (env : Env) (σ : L2.St) (v : V) (r : D × Bool) : Prop := match r with
  | (d, false) => RepW K W v d
  | (d, true) => ∃ a o, v = .ref a ∧ W.O a = some o ∧ Ow K W.G W.al o d ∧ ∀ (j : Nat) (d' : D), env[j]? = some (.own d') → σ[j]? = some (some (.ref a)) → False
theorem Pend.evo {K : PySem.W.Frag} {W W' : Wd} {env : Env} {σ : L2.St} {v : V} {r : D × Bool} (h : Pend K W env σ v r) (g : Le W.G W'.G) (o : Le W.O W'.O) (al : Pre W.al W'.al) : Pend K W' env σ v r := by
  obtain ⟨d, b⟩ := r
  cases b with
  | false => exact Rep.mono g al h
  | true =>
    obtain ⟨a, ob, rfl, h1, h2, h3⟩ := h
    exact ⟨a, ob, rfl, o _ _ h1, h2.mono g al, h3⟩
/-- what comes out of an expression waits -/
theorem Pend.of {K : PySem.W.Frag} {W : Wd} {M : List MO} {H : Hp} {env : Env} {σ : L2.St} {v : V} {r : D × Bool} (w : Rw K W M H) (re : Re K W env σ) (rr : RepR K W H r v) :
    ∃ W', EvoS W W' ∧ Le W.O W'.O ∧ Rw K W' M H ∧ Re K W' env σ ∧ Pend K W' env σ v r ∧ ∀ a, v = .ref a → r.2 = true → W.O a = none := by
  cases rr with
  | old h => exact ⟨W, EvoS.refl W, Le.refl _, w, re, h, fun a _ z => (nomatch z)⟩
  | new h rr g b oo m =>
    rename_i a o d
    obtain ⟨e1, w1⟩ := w.own h g b m
    have nob : ∀ (j : Nat) (d' : D), env[j]? = some (.own d') → σ[j]? = some (some (.ref a)) → False := fun j d' h1 h2 => by
      have y := re.at_ j _ h1
      rw [h2] at y
      cases y with
      | own y _ =>
        rw [oo] at y
        cases y
    refine ⟨_, e1, Le.upd oo, w1, ⟨re.len, fun j s hj => re.off (a := a) (O := upd W.O a o) (i := env.length + j + 1) (fun c hc => upd_ne hc) (fun j d' h1 h2 => (nob j d' h1 h2).elim) j s (by omega) hj, re.inj⟩, ⟨a, o, rfl, upd_same, rr, nob⟩, fun a' z _ => by cases z; exact oo⟩
theorem Pend.has {K : PySem.W.Frag} {W : Wd} {env : Env} {σ : L2.St} {v : V} {r : D × Bool} {a : Addr} (p : Pend K W env σ v r) (z : v = .ref a) (h : r.2 = true) (n : W.O a = none) : False := by
  obtain ⟨d, b⟩ := r
  cases h
  obtain ⟨a', o, z', h1, _⟩ := p
  rw [z'] at z
  cases z
  rw [h1] at n
  cases n
/-- it is stored -/
theorem Pend.put {K : PySem.W.Frag} {W : Wd} {env : Env} {σ : L2.St} {i : Nat} {v : V} {r : D × Bool} (re : Re K W env σ) (hi : i < env.length) (p : Pend K W env σ v r) : Re K W (putSl env i r) (σ.set i (some v)) := by
  obtain ⟨d, b⟩ := r
  cases b with
  | false => exact re.setFz hi p
  | true =>
    obtain ⟨a, o, rfl, h1, h2, nob⟩ := p
    have hl := re.len
    refine ⟨by unfold putSl; rw [List.length_set, List.length_set]; exact hl, fun j s hj => ?_, fun j k d1 d2 a' h1' h2' h3 h4 => ?_⟩
    · unfold putSl at hj
      by_cases z : i = j
      · subst z
        rw [List.getElem?_set_self hi] at hj
        cases hj
        rw [List.getElem?_set_self (by omega)]
        exact .own h1 h2
      · rw [List.getElem?_set_ne z] at hj ⊢
        exact re.at_ j s hj
    · unfold putSl at h1' h2'
      by_cases z : i = j
      · subst z
        rw [List.getElem?_set_self (by omega)] at h3
        cases h3
        by_cases y : i = k
        · exact y
        · rw [List.getElem?_set_ne y] at h2' h4
          exact (nob k _ h2' h4).elim
      · rw [List.getElem?_set_ne z] at h1' h3
        by_cases y : i = k
        · subst y
          rw [List.getElem?_set_self (by omega)] at h4
          cases h4
          exact (nob j _ h1' h3).elim
        · rw [List.getElem?_set_ne y] at h2' h4
          exact re.inj j k d1 d2 a' h1' h2' h3 h4
/-- another one still waits -/
theorem Pend.keep {K : PySem.W.Frag} {W : Wd} {env : Env} {σ : L2.St} {i : Nat} {v u : V} {r t : D × Bool} (hi : i < env.length) (hl : σ.length = env.length) (p : Pend K W env σ v r) (ne : ∀ a, v = .ref a → u = .ref a → r.2 = true → t.2 = true → False) : Pend K W (putSl env i t) (σ.set i (some u)) v r := by
  obtain ⟨d, b⟩ := r
  cases b with
  | false => exact p
  | true =>
    obtain ⟨a, o, rfl, h1, h2, nob⟩ := p
    refine ⟨a, o, rfl, h1, h2, fun j d' hj hs => ?_⟩
    unfold putSl at hj
    by_cases z : i = j
    · subst z
      rw [List.getElem?_set_self hi] at hj
      rw [List.getElem?_set_self (by omega)] at hs
      cases hs
      obtain ⟨d2, b2⟩ := t
      cases b2 with
      | false => cases hj
      | true => exact ne a rfl rfl rfl rfl
    · rw [List.getElem?_set_ne z] at hj hs
      exact nob j d' hj hs
def sPar3 (i j l : Nat) (f g h : EE) : ES := fun env M => match f env M with
  | some (r, M1) => match g env M1 with
    | some (t, M2) => match h env M2 with
      | some (u, M3) => if i < env.length ∧ j < env.length ∧ l < env.length then some (.nx, putSl (putSl (putSl env i r) j t) l u, M3) else none
      | none => none
    | none => none
  | none => none
theorem tPar3_of {K : PySem.W.Frag} {ta tb tc : TE} {f g h : EE} {i j l : Nat} {Dd : Ends} {σ : L2.St} {H : Hp} (ha : ∀ σ H Q, tE K f σ H Q → ta σ H Q) (hb : ∀ σ H Q, tE K g σ H Q → tb σ H Q) (hc : ∀ σ H Q, tE K h σ H Q → tc σ H Q)
    (hh : tS K (sPar3 i j l f g h) Dd σ H) : tPar3 i j l (tCons ta (tCons tb (tCons tc tNil))) Dd σ H := by
  obtain ⟨W, env, M, fl, env', M', w, re, e, q⟩ := hh
  unfold sPar3 at e
  split at e
  · rename_i r M1 hf
    split at e
    · rename_i t M2 hg
      split at e
      · rename_i u M3 hh
        split at e
        · rename_i hlen
          cases e
          refine ha _ _ _ ⟨W, env, M, r, M1, w, re, hf, fun v H1 W1 e1 w1 rr => ?_⟩
          obtain ⟨W1', s1, o1, w1', re1', p1, n1⟩ := Pend.of w1 (re.evo e1) rr
          refine hb _ _ _ ⟨W1', env, M1, t, M2, w1', re1', hg, fun v2 H2 W2 e2 w2 rt => ?_⟩
          have p1 := p1.evo e2.g (by rw [e2.o]; exact Le.refl _) e2.al
          obtain ⟨W2', s2, o2, w2', re2', p2, n2⟩ := Pend.of w2 (re1'.evo e2) rt
          have ne12 : ∀ a, v = .ref a → v2 = .ref a → r.2 = true → t.2 = true → False := fun a z1 z2 h1 h2 => p1.has z1 h1 (n2 a z2 h2)
          have p1 := p1.evo s2.g o2 s2.al
          refine hc _ _ _ ⟨W2', env, M2, u, _, w2', re2', hh, fun v3 H3 W3 e3 w3 ru => ?_⟩
          have p1 := p1.evo e3.g (by rw [e3.o]; exact Le.refl _) e3.al
          have p2 := p2.evo e3.g (by rw [e3.o]; exact Le.refl _) e3.al
          obtain ⟨W3', s3, o3, w3', re3', p3, n3⟩ := Pend.of w3 (re2'.evo e3) ru
          have ne13 : ∀ a, v = .ref a → v3 = .ref a → r.2 = true → u.2 = true → False := fun a z1 z2 h1 h2 => p1.has z1 h1 (n3 a z2 h2)
          have ne23 : ∀ a, v2 = .ref a → v3 = .ref a → t.2 = true → u.2 = true → False := fun a z1 z2 h1 h2 => p2.has z1 h1 (n3 a z2 h2)
          have p1 := p1.evo s3.g o3 s3.al
          have p2 := p2.evo s3.g o3 s3.al
          refine ⟨v, v2, v3, rfl, ?_⟩
          have q1 := p1.put re3' hlen.1
          have p2 := p2.keep (i := i) (u := v) (t := r) hlen.1 re3'.len fun a z1 z2 h1 h2 => ne12 a z2 z1 h2 h1
          have p3 := p3.keep (i := i) (u := v) (t := r) hlen.1 re3'.len fun a z1 z2 h1 h2 => ne13 a z2 z1 h2 h1
          have l1 : (putSl env i r).length = env.length := by unfold putSl; rw [List.length_set]
          have q2 := p2.put q1 (by rw [l1]; exact hlen.2.1)
          have p3 := p3.keep (i := j) (u := v2) (t := t) (by rw [l1]; exact hlen.2.1) q1.len fun a z1 z2 h1 h2 => ne23 a z2 z1 h2 h1
          have l2 : (putSl (putSl env i r) j t).length = env.length := by unfold putSl; rw [List.length_set, List.length_set]
          have q3 := p3.put q2 (by rw [l2]; exact hlen.2.2)
          exact q _ _ W3' ((((e1.s.trans s1).trans (e2.s.trans s2)).trans e3.s).trans s3) w3' q3
        · cases e
      · cases e
    · cases e
  · cases e
/-! ### the least, the greatest of data -/
mutual
/-- data that can be compared, no deeper than n -/
def D.okd : D → Nat → Bool
  | .non, _ => true | .bl _, _ => true | .int _, _ => true | .str _, _ => true
  | .tup xs, n => decide (0 < n) && D.okds xs (n - 1)
  | .lst xs, n => decide (0 < n) && D.okds xs (n - 1)
  | .scr _, _ => false
  | .dct _ _, _ => false
  | .obj _, _ => false
def D.okds : List D → Nat → Bool
  | [], _ => true
  | x :: xs, n => D.okd x n && D.okds xs n
end
mutual
theorem D.okd_ok : ∀ {d : D} {n : Nat}, d.okd n = true → d.pure = true ∧ d.depth ≤ n
  | .non, n, _ => ⟨rfl, Nat.zero_le _⟩
  | .bl _, n, _ => ⟨rfl, Nat.zero_le _⟩
  | .int _, n, _ => ⟨rfl, Nat.zero_le _⟩
  | .str _, n, _ => ⟨rfl, Nat.zero_le _⟩
  | .tup xs, n, h => by
    rw [D.okd, Bool.and_eq_true, decide_eq_true_eq] at h
    obtain ⟨a, b⟩ := D.okds_ok h.2
    refine ⟨a, ?_⟩
    rw [D.depth]
    omega
  | .lst xs, n, h => by
    rw [D.okd, Bool.and_eq_true, decide_eq_true_eq] at h
    obtain ⟨a, b⟩ := D.okds_ok h.2
    refine ⟨a, ?_⟩
    rw [D.depth]
    omega
  | .scr _, n, h => by cases h
  | .dct _ _, n, h => by cases h
  | .obj _, n, h => by cases h
theorem D.okds_ok : ∀ {ds : List D} {n : Nat}, D.okds ds n = true → D.pures ds = true ∧ D.depths ds ≤ n
  | [], n, _ => ⟨rfl, Nat.zero_le _⟩
  | d :: ds, n, h => by
    rw [D.okds, Bool.and_eq_true] at h
    obtain ⟨a, b⟩ := D.okd_ok h.1
    obtain ⟨c, e⟩ := D.okds_ok h.2
    refine ⟨by rw [D.pures, a, c]; rfl, ?_⟩
    rw [D.depths]
    omega
end

mutual
theorem D.py_inj : ∀ {d e : D} {n m : Nat}, d.okd n = true → e.okd m = true → d.py = e.py → d = e
  | .non, e, n, m, _, h, q => by cases e <;> first | rfl | cases q | cases h
  | .bl _, e, n, m, _, h, q => by cases e <;> first | (cases q; rfl) | cases q | cases h
  | .int _, e, n, m, _, h, q => by cases e <;> first | (cases q; rfl) | cases q | cases h
  | .str _, e, n, m, _, h, q => by cases e <;> first | (cases q; rfl) | cases q | cases h
  | .tup xs, e, n, m, g, h, q => by
    cases e with
    | tup ys =>
      rw [D.okd, Bool.and_eq_true] at g h
      rw [D.py, D.py] at q
      rw [D.pys_inj g.2 h.2 (PyData.tuple.inj q)]
    | _ => first | cases q | cases h
  | .lst xs, e, n, m, g, h, q => by
    cases e with
    | lst ys =>
      rw [D.okd, Bool.and_eq_true] at g h
      rw [D.py, D.py] at q
      rw [D.pys_inj g.2 h.2 (PyData.list.inj q)]
    | _ => first | cases q | cases h
  | .scr _, e, n, m, g, _, _ => by cases g
  | .dct _ _, e, n, m, g, _, _ => by cases g
  | .obj _, e, n, m, g, _, _ => by cases g
theorem D.pys_inj : ∀ {ds es : List D} {n m : Nat}, D.okds ds n = true → D.okds es m = true → D.pys ds = D.pys es → ds = es
  | [], [], _, _, _, _, _ => rfl
  | [], _ :: _, _, _, _, _, q => by simp [D.pys] at q
  | _ :: _, [], _, _, _, _, q => by simp [D.pys] at q
  | d :: ds, e :: es, n, m, g, h, q => by
    rw [D.okds, Bool.and_eq_true] at g h
    rw [D.pys, D.pys] at q
    obtain ⟨a, b⟩ := List.cons.inj q
    rw [D.py_inj g.1 h.1 a, D.pys_inj g.2 h.2 b]
end
def bestD (mx : Bool) (x : PyData) (xs : List PyData) : PyData := if mx then PySem.W.maxD x xs else PySem.W.minD x xs
def rBest (K : PySem.W.Frag) (mx : Bool) : List V → Hp → VK → Prop := fun xs H Q => ∃ (a : Addr) (b : V × D) (bs : List (V × D)), xs = [.ref a] ∧ (SqL K H a ((b :: bs).map (·.1)) ∨ SqT K H a ((b :: bs).map (·.1))) ∧
  PySem.W.AlikeAll ((b :: bs).map (·.2.py)) ∧ (∀ c ∈ b :: bs, Dp K H c.1 c.2.py ∧ c.2.py.depth ≤ 64) ∧ ∀ c ∈ b :: bs, c.2.py = bestD mx b.2.py (bs.map (·.2.py)) → Q c.1 H
theorem min_mem : ∀ (xs : List PyData) (x : PyData), PySem.W.minD x xs ∈ x :: xs := fun xs => by
  induction xs with
  | nil => exact fun x => List.mem_cons_self ..
  | cons y xs ih =>
    intro x
    unfold PySem.W.minD at ih ⊢
    rw [List.foldl_cons]
    by_cases h : PySem.W.dataLt y x = true
    · rw [if_pos h]
      exact List.mem_cons_of_mem _ (ih y)
    · rw [if_neg h]
      rcases List.mem_cons.mp (ih x) with z | z
      · rw [z]
        exact List.mem_cons_self ..
      · exact List.mem_cons_of_mem _ (List.mem_cons_of_mem _ z)
theorem max_mem : ∀ (xs : List PyData) (x : PyData), PySem.W.maxD x xs ∈ x :: xs := fun xs => by
  induction xs with
  | nil => exact fun x => List.mem_cons_self ..
  | cons y xs ih =>
    intro x
    unfold PySem.W.maxD at ih ⊢
    rw [List.foldl_cons]
    by_cases h : PySem.W.dataLt x y = true
    · rw [if_pos h]
      exact List.mem_cons_of_mem _ (ih y)
    · rw [if_neg h]
      rcases List.mem_cons.mp (ih x) with z | z
      · rw [z]
        exact List.mem_cons_self ..
      · exact List.mem_cons_of_mem _ (List.mem_cons_of_mem _ z)
theorem best_mem (mx : Bool) (x : PyData) (xs : List PyData) : bestD mx x xs ∈ x :: xs := by
  unfold bestD
  cases mx
  · exact min_mem xs x
  · exact max_mem xs x
theorem depths_mem : ∀ {xs : List PyData} {n : Nat}, (∀ x ∈ xs, x.depth ≤ n) → PyData.depthAll xs ≤ n
  | [], n, _ => Nat.zero_le _
  | x :: xs, n, h => by
    rw [PyData.depthAll]
    exact Nat.max_le.mpr ⟨h x (List.mem_cons_self ..), depths_mem fun y hy => h y (List.mem_cons_of_mem _ hy)⟩
section
variable {X : Cx}
theorem vals_at : ∀ {vs : List V} {us : List Value} {i : Nat} {u : Value}, Vals vs us → us[i]? = some u → ∃ v, vs[i]? = some v ∧ RelV v u
  | _, _, _, _, .nil, h => by simp at h
  | _, _, 0, _, .cons r _, h => by
    simp at h
    subst h
    exact ⟨_, rfl, r⟩
  | _, _, i + 1, _, .cons _ rs, h => by
    obtain ⟨v, a, b⟩ := vals_at (i := i) rs (by simpa using h)
    exact ⟨v, by simpa using a, b⟩
theorem cr_best (hc : X.calm = true) (hu : X.A.units + 70 < cLine) (mx : Bool) : CallR X (.builtin (if mx then "max" else "min")) (rBest X.K mx) := by
  intro pins s σ H vs us Q I r h
  obtain ⟨a, b, bs, rfl, hs, hal, hd, q⟩ := h
  rw [Vals.ref1 r]
  obtain ⟨its, rv, hl⟩ : ∃ its : List Value, Vals ((b :: bs).map (·.1)) its ∧ (s.heap.IsList a its.toArray ∨ s.heap.IsTuple a its.toArray) := by
    rcases hs with hs | hs
    · obtain ⟨its, rv, hl, hz⟩ := I.list hs
      exact ⟨its, rv, .inl hl.isList⟩
    · obtain ⟨its, rv, hl, hz⟩ := I.tuple hs
      exact ⟨its, rv, .inr (by obtain ⟨o, h1, h2, n, h3⟩ := hl; exact ⟨o, h1, h2, n, h3⟩)⟩
  have er : PySem.W.EachIs (fun v (b : V × D) => ∃ as, Reads s.heap v b.2.py as) its (b :: bs) := each_of_vals (h := s.heap) rv fun b hb u ru => Dp.reads I _ _ _ (hd b hb).1 ru
  obtain ⟨as, hr⟩ := PySem.W.each_readsAll (fun b : V × D => b.2.py) er
  have hdep : PyData.depthAll (b.2.py :: bs.map (·.2.py)) ≤ 64 := depths_mem fun x hx => by
    obtain ⟨c, hcm, rfl⟩ := List.mem_map.mp (show x ∈ (b :: bs).map (·.2.py) from hx)
    exact (hd c hcm).2
  have hun : X.A.units + 1 + PyData.depthAll (b.2.py :: bs.map (·.2.py)) < cLine := by omega
  have fin : ∀ (i : Nat) (v : Value) (h' : Heap) (tk : Nat) (as' : List Addr), its[i]? = some v → Reads h' v (bestD mx b.2.py (bs.map (·.2.py))) as' → (∀ b o, s.heap.get? b = some o → h'.get? b = some o) → L2.EP X pins σ Q v { s with heap := h', toks := tk } := fun i v h' tk as' hv hrd hk => by
    obtain ⟨u, hu1, hu2⟩ := vals_at rv hv
    rw [List.getElem?_map] at hu1
    cases hci : (b :: bs)[i]? with
    | none =>
      rw [hci] at hu1
      cases hu1
    | some c =>
      rw [hci] at hu1
      cases hu1
      have hcm := List.mem_of_getElem? hci
      obtain ⟨as2, hr2⟩ := Dp.reads I _ _ _ (hd c hcm).1 hu2
      have hr3 : Reads h' v c.2.py as2 := PyProof.Rows.Reads.keeps hk hr2
      have hbm : bestD mx b.2.py (bs.map (·.2.py)) ∈ (b :: bs).map (·.2.py) := best_mem mx _ _
      have e := PySem.W.alike_unique _ _ _ _ _ (hal.1 _ (List.mem_map_of_mem hcm) _ hbm) hr3 hrd
      exact ⟨_, H, I.kept hk, hu2, q c hcm e⟩
  cases mx with
  | false =>
    rcases hl with hl | hl
    · exact PySem.W.min_list_data (I.ok.hd hc) hl hr hal hun fun i v h' tk as' hv hrd hk => fin i v h' tk as' (by simpa using hv) hrd hk
    · exact PySem.W.min_tuple_data (I.ok.hd hc) hl hr hal hun fun i v h' tk as' hv hrd hk => fin i v h' tk as' (by simpa using hv) hrd hk
  | true =>
    rcases hl with hl | hl
    · exact PySem.W.max_list_data (I.ok.hd hc) hl hr hal hun fun i v h' tk as' hv hrd hk => fin i v h' tk as' (by simpa using hv) hrd hk
    · exact PySem.W.max_tuple_data (I.ok.hd hc) hl hr hal hun fun i v h' tk as' hv hrd hk => fin i v h' tk as' (by simpa using hv) hrd hk
end
/-- the least or the greatest, as data -/
def bD (mx : Bool) (x : D) (xs : List D) : D := xs.foldl (fun m d => if (if mx then PySem.W.dataLt m.py d.py else PySem.W.dataLt d.py m.py) then d else m) x
def bestC (ds : List D) : Bool := D.alikeB ds && D.sortB ds && D.okds ds 60
def bestX (mx : Bool) (ds : List D) : Option (D × Bool) := match ds with
  | x :: xs => if bestC (x :: xs) then some (bD mx x xs, false) else none
  | [] => none
def dBest (mx : Bool) : OpN
  | [.tup xs] => bestX mx xs
  | [.lst xs] => bestX mx xs
  | [.scr xs] => bestX mx xs
  | _ => none
theorem bD_py : ∀ (mx : Bool) (xs : List D) (x : D), (bD mx x xs).py = bestD mx x.py (xs.map D.py)
  | mx, [], x => by cases mx <;> rfl
  | mx, y :: xs, x => by
    have z := bD_py mx xs (if (if mx then PySem.W.dataLt x.py y.py else PySem.W.dataLt y.py x.py) then y else x)
    unfold bD at z ⊢
    rw [List.foldl_cons, z]
    unfold bestD
    cases mx
    · simp only [PySem.W.minD, PySem.W.maxD, List.map_cons, List.foldl_cons, Bool.false_eq_true, if_false]
      by_cases h : PySem.W.dataLt y.py x.py = true
      · rw [if_pos h, if_pos h]
      · rw [if_neg h, if_neg h]
    · simp only [PySem.W.minD, PySem.W.maxD, List.map_cons, List.foldl_cons, if_true]
      by_cases h : PySem.W.dataLt x.py y.py = true
      · rw [if_pos h, if_pos h]
      · rw [if_neg h, if_neg h]
theorem bD_mem : ∀ (mx : Bool) (xs : List D) (x : D), bD mx x xs ∈ x :: xs
  | mx, [], x => List.mem_cons_self ..
  | mx, y :: xs, x => by
    unfold bD
    rw [List.foldl_cons]
    by_cases h : (if mx then PySem.W.dataLt x.py y.py else PySem.W.dataLt y.py x.py) = true
    · rw [if_pos h]
      exact List.mem_cons_of_mem _ (bD_mem mx xs y)
    · rw [if_neg h]
      rcases List.mem_cons.mp (bD_mem mx xs x) with z | z
      · unfold bD at z
        rw [z]
        exact List.mem_cons_self ..
      · exact List.mem_cons_of_mem _ (List.mem_cons_of_mem _ z)
theorem okds_mem : ∀ {ds : List D} {n : Nat} {d : D}, D.okds ds n = true → d ∈ ds → d.okd n = true
  | [], _, _, _, h => by cases h
  | x :: xs, n, d, h, m => by
    rw [D.okds, Bool.and_eq_true] at h
    rcases List.mem_cons.mp m with z | z
    · rw [z]
      exact h.1
    · exact okds_mem h.2 z
theorem ok_best {K : PySem.W.Frag} {mx : Bool} : OkN K (rBest K mx) (dBest mx) := by
  intro W M H x d res Q w rs h q
  have go : ∀ {xs : List D} {a : Addr} {vs : List V}, (SqL K H a vs ∨ SqT K H a vs) → RepsW K W vs xs → bestX mx xs = some res → rBest K mx [.ref a] H Q := fun {xs a vs} hs r h => by
    unfold bestX at h
    split at h
    · rename_i x0 ds
      split at h
      · rename_i hc
        cases h
        unfold bestC at hc
        simp only [Bool.and_eq_true] at hc
        obtain ⟨⟨h1, h2⟩, h3⟩ := hc
        have hl := r.length
        cases r with
        | cons rb rs =>
          rename_i v0 vs
          have hl' : vs.length = ds.length := by simpa using hl
          have e1 : ((v0, x0) :: vs.zip ds).map (·.1) = v0 :: vs := by rw [List.map_cons, zip_fst hl']
          have e2 : ((v0, x0) :: vs.zip ds).map (fun p : V × D => p.2.py) = (x0 :: ds).map D.py := by
            rw [List.map_cons, List.map_cons, show (fun p : V × D => p.2.py) = D.py ∘ (fun p : V × D => p.2) from rfl, ← List.map_map, zip_snd hl']
          have e3 : (vs.zip ds).map (fun p : V × D => p.2.py) = ds.map D.py := by
            rw [show (fun p : V × D => p.2.py) = D.py ∘ (fun p : V × D => p.2) from rfl, ← List.map_map, zip_snd hl']
          have mem : ∀ c ∈ (v0, x0) :: vs.zip ds, c.2 ∈ x0 :: ds ∧ RepW K W c.1 c.2 := fun c hc => by
            rcases List.mem_cons.mp hc with z | z
            · subst z
              exact ⟨List.mem_cons_self .., rb⟩
            · exact ⟨List.mem_cons_of_mem _ (List.of_mem_zip (by simpa using z)).2, Reps.zips rs c z⟩
          refine ⟨a, (v0, x0), vs.zip ds, rfl, by rw [e1]; exact hs, ?_, fun c hc => ?_, fun c hc hp => ?_⟩
          · rw [e2]
            exact ⟨fun d hd e he => alikeB_of h1 d hd e he, by
              intro d hd
              have z := sortB_of h2
              rcases z with z | z
              · obtain ⟨_, _, z⟩ := z d hd
                rw [z]
                nofun
              · exact (z d hd).1⟩
          · obtain ⟨m, rc⟩ := mem c hc
            obtain ⟨p, dd⟩ := D.okd_ok (okds_mem h3 m)
            exact ⟨(Rep.dp w.g rc p).1, by rw [D.depth_py _ p]; omega⟩
          · obtain ⟨m, rc⟩ := mem c hc
            rw [e3, ← bD_py] at hp
            have z := D.py_inj (okds_mem h3 m) (okds_mem h3 (bD_mem mx ds x0)) hp
            rw [← z] at q
            exact q _ _ _ (Evo.refl W) w (.old rc)
      · cases h
    · cases h
  unfold dBest at h
  split at h
  · obtain ⟨v, rfl, r⟩ := RepP.one rs
    obtain ⟨a, vs, rfl, h1, r1⟩ := r.tup w
    exact go (.inr h1) r1 h
  · obtain ⟨v, rfl, r⟩ := RepP.one rs
    obtain ⟨a, vs, rfl, h1, r1⟩ := r.lst w
    exact go (.inl (.inl (.inl h1))) r1 h
  · obtain ⟨v, rfl, r⟩ := RepP.one rs
    obtain ⟨a, vs, rfl, h1, r1⟩ := r.scr w
    exact go (.inl h1) r1 h
  · cases h
end R

set_option Elab.async false
set_option linter.all false
set_option maxRecDepth 100000
set_option maxHeartbeats 4000000
/-! R29: zip of three -/
namespace R
open PySem PySem.Spec PySem.Calls PyProof.Rows L2
def Itz3 (K : PySem.W.Frag) (b1 b2 b3 : Bool) (a c e : Addr) : It :=
  ⟨fun i H => ∃ (xs ys zs : List V) (x y z : V), SqB K b1 H a xs ∧ SqB K b2 H c ys ∧ SqB K b3 H e zs ∧ xs[i]? = some x ∧ ys[i]? = some y ∧ zs[i]? = some z,
    fun i H v H' => ∃ T x y z o, v = .ref T ∧ H T = none ∧ o.dict = none ∧ H' = upd H T (.frz o (.tup [x, y, z])) ∧ (∀ xs, SqB K b1 H a xs → xs[i]? = some x) ∧ (∀ ys, SqB K b2 H c ys → ys[i]? = some y) ∧ ∀ zs, SqB K b3 H e zs → zs[i]? = some z,
    fun i H => ∃ xs ys zs : List V, SqB K b1 H a xs ∧ SqB K b2 H c ys ∧ SqB K b3 H e zs ∧ min xs.length (min ys.length zs.length) = i⟩
structure ZAp3 (z TI TO i1 i2 i3 a c e : Addr) : Prop where
  sep : ZipSep3 z TI TO i1 i2 i3 [i1, a] [i2, c] [i3, e]
  n1 : a ≠ i1
  n2 : c ≠ i2
  n3 : e ≠ i3
theorem turn_zip3 {P : Program} {w : World} {K : PySem.W.Frag} {elts : List Expr} {kk : Nat} {tpos : Pos} {b1 b2 b3 : Bool} {a c e z TI TO i1 i2 i3 : Addr} (S : ZAp3 z TI TO i1 i2 i3 a c e) :
    Turn P w K (.Tuple elts kk tpos) (Itz3 K b1 b2 b3 a c e) [z, TI, TO, i1, i2, i3] z (fun i h => IsZip h z TI TO .none ∧ IsTupOf3 h TI (.ref i1) (.ref i2) (.ref i3) ∧ (∃ x y t, IsTupOf3 h TO x y t) ∧ ItB b1 h i1 a i ∧ ItB b2 h i2 c i ∧ ItB b3 h i3 e i) where
  mem := by simp
  obj := fun i h st d hd => by
    obtain ⟨hz, hTI, ⟨x, y, t, hTO⟩, h1, h2, h3⟩ := st
    have e' : d = z ∨ d = TI ∨ d = TO ∨ d = i1 ∨ d = i2 ∨ d = i3 := by simpa using hd
    rcases e' with q | q | q | q | q | q
    · rw [q]; exact ⟨_, hz, fun v q => nomatch q⟩
    · rw [q]; exact ⟨_, hTI, fun v q => nomatch q⟩
    · rw [q]; exact ⟨_, hTO, fun v q => nomatch q⟩
    · rw [q]; exact itB_ob h1
    · rw [q]; exact itB_ob h2
    · rw [q]; exact itB_ob h3
  keep := fun i h h' st k => by
    obtain ⟨hz, hTI, ⟨x, y, t, hTO⟩, h1, h2, h3⟩ := st
    exact ⟨k z (by simp) _ hz, k TI (by simp) _ hTI, ⟨x, y, t, k TO (by simp) _ hTO⟩, itB_at h1 fun o q => k i1 (by simp) o q, itB_at h2 fun o q => k i2 (by simp) o q, itB_at h3 fun o q => k i3 (by simp) o q⟩
  item := by
    intro X hP hw hK hc i pins s σ H E I hf st hg
    subst hP hw hK
    obtain ⟨hz, hTI, ⟨x0, y0, t0, hTO⟩, h1, h2, h3⟩ := st
    obtain ⟨xs, ys, zs, x, y, t, hqx, hqy, hqz, hx, hy, ht⟩ := hg
    obtain ⟨its, rv, p, _, _⟩ := Inv_b I hqx
    obtain ⟨its2, rv2, p2, _, _⟩ := Inv_b I hqy
    obtain ⟨its3, rv3, p3, _, _⟩ := Inv_b I hqz
    obtain ⟨u, hu, ru⟩ := rv.get hx
    obtain ⟨u2, hu2, ru2⟩ := rv2.get hy
    obtain ⟨u3, hu3, ru3⟩ := rv3.get ht
    have hzl : z < s.heap.objs.size := Heap.lt_size hz
    have hi1 : i < its.toArray.size := by rw [List.size_toArray]; exact (List.getElem?_eq_some_iff.mp hu).1
    have hi2 : i < its2.toArray.size := by rw [List.size_toArray]; exact (List.getElem?_eq_some_iff.mp hu2).1
    have hi3 : i < its3.toArray.size := by rw [List.size_toArray]; exact (List.getElem?_eq_some_iff.mp hu3).1
    have D1 := draws_b (P := X.prog) (w := X.w) (A := X.A.in1) (I.ok.hd hc) b1 i1 a S.n1 its.toArray
    have D2 := draws_b (P := X.prog) (w := X.w) (A := X.A.in1) (I.ok.hd hc) b2 i2 c S.n2 its2.toArray
    have D3 := draws_b (P := X.prog) (w := X.w) (A := X.A.in1) (I.ok.hd hc) b3 i3 e S.n3 its3.toArray
    refine wpAny_pyNext_zipD3_item S.sep D1 D2 D3 hz hTI hTO ⟨h1, p⟩ ⟨h2, p2⟩ ⟨h3, p3⟩ hi1 hi2 hi3 fun y1 y2 y3 h' tk e1 e2 e3 z' TO' st1 st2 st3 hT hsz hk => ?_
    have ey : y1 = u := by
      rw [List.getElem?_toArray, hu] at e1
      exact (Option.some.inj e1).symm
    have ey2 : y2 = u2 := by
      rw [List.getElem?_toArray, hu2] at e2
      exact (Option.some.inj e2).symm
    have ey3 : y3 = u3 := by
      rw [List.getElem?_toArray, hu3] at e3
      exact (Option.some.inj e3).symm
    subst ey ey2 ey3
    refine ⟨_, rfl, wpAny_letOwnedTupleGo_zip (s := { s with heap := h', toks := tk }) z' fun h'' z'' sb => ?_⟩
    have hT2 : h''.get? s.heap.objs.size = some { cls := .type "tuple", data := .seq #[y1, y2, y3] } := (sb.2 _ (Nat.ne_of_gt hzl)).trans hT
    have new : ObjOk X.prog X.w (upd H s.heap.objs.size (.frz { cls := .type "tuple", data := .seq #[y1, y2, y3] } (.tup [x, y, t]))) h'' s.heap.objs.size (.frz { cls := .type "tuple", data := .seq #[y1, y2, y3] } (.tup [x, y, t])) :=
      ⟨hT2, by show 3 ≤ sizeLine; decide, [y1, y2, y3], .cons ru (.cons ru2 (.cons ru3 .nil)), ⟨_, hT2, rfl, _, rfl⟩⟩
    have I1 : L2.Inv X pins σ (upd H s.heap.objs.size (.frz { cls := .type "tuple", data := .seq #[y1, y2, y3] } (.tup [x, y, t]))) { s with heap := h'', toks := tk } :=
      I.turnedNew (t' := tk) (ch := [z, TI, TO, i1, i2, i3]) (fun d o hb q => (sb.2 d (fun q' => hb (by simp [q']))).trans (hk d o (fun q' => hb (by simp [q'])) (fun q' => hb (by simp [q'])) (fun q' => hb (by simp [q'])) (fun q' => hb (by simp [q'])) (fun q' => hb (by simp [q'])) q)) hf (Nat.le_refl _) new
    refine ⟨.ref s.heap.objs.size, _, I1, rfl, ⟨_, x, y, t, _, rfl, I.hok.fresh (Nat.le_refl _), rfl, rfl, fun l hl => by rw [Inv_binj I hl hqx]; exact hx, fun l hl => by rw [Inv_binj I hl hqy]; exact hy, fun l hl => by rw [Inv_binj I hl hqz]; exact ht⟩, ⟨z'', ?_, ⟨y1, y2, y3, ?_⟩, ?_, ?_, ?_⟩, fun d hcm => ?_⟩
    · exact (sb.2 _ S.sep.TIz).trans (hk _ _ S.sep.TIz S.sep.TITO S.sep.TIi1 S.sep.TIi2 S.sep.TIi3 hTI)
    · exact (sb.2 _ S.sep.TOz).trans TO'
    · exact itB_at st1.1 fun o q => (sb.2 _ (Ne.symm S.sep.zi1)).trans q
    · exact itB_at st2.1 fun o q => (sb.2 _ (Ne.symm S.sep.zi2)).trans q
    · exact itB_at st3.1 fun o q => (sb.2 _ (Ne.symm S.sep.zi3)).trans q
    · have hlt : d < s.heap.objs.size := by
        have e' : d = z ∨ d = TI ∨ d = TO ∨ d = i1 ∨ d = i2 ∨ d = i3 := by simpa using hcm
        rcases e' with q | q | q | q | q | q
        · rw [q]; exact hzl
        · rw [q]; exact Heap.lt_size hTI
        · rw [q]; exact Heap.lt_size hTO
        · rw [q]; obtain ⟨_, e1, _⟩ := itB_ob h1; exact Heap.lt_size e1
        · rw [q]; obtain ⟨_, e1, _⟩ := itB_ob h2; exact Heap.lt_size e1
        · rw [q]; obtain ⟨_, e1, _⟩ := itB_ob h3; exact Heap.lt_size e1
      rw [upd_ne (Nat.ne_of_lt hlt)]
      exact (hf d hcm).1
  done := by
    intro X hP hw hK hc i pins s σ H E I hf st hg
    subst hP hw hK
    obtain ⟨hz, hTI, ⟨x0, y0, t0, hTO⟩, h1, h2, h3⟩ := st
    obtain ⟨xs, ys, zs, hqx, hqy, hqz, hend⟩ := hg
    obtain ⟨its, rv, p, _, _⟩ := Inv_b I hqx
    obtain ⟨its2, rv2, p2, _, _⟩ := Inv_b I hqy
    obtain ⟨its3, rv3, p3, _, _⟩ := Inv_b I hqz
    have l1 := rv.length
    have l2 := rv2.length
    have l3 := rv3.length
    have D1 := draws_b (P := X.prog) (w := X.w) (A := X.A.in1) (I.ok.hd hc) b1 i1 a S.n1 its.toArray
    have D2 := draws_b (P := X.prog) (w := X.w) (A := X.A.in1) (I.ok.hd hc) b2 i2 c S.n2 its2.toArray
    have D3 := draws_b (P := X.prog) (w := X.w) (A := X.A.in1) (I.ok.hd hc) b3 i3 e S.n3 its3.toArray
    have z1 : its.toArray.size = its.length := List.size_toArray
    have z2 : its2.toArray.size = its2.length := List.size_toArray
    have z3 : its3.toArray.size = its3.length := List.size_toArray
    exact wpAny_pyNext_zipD3_end S.sep D1 D2 D3 hz hTI hTO ⟨h1, p⟩ ⟨h2, p2⟩ ⟨h3, p3⟩ (by omega) (by omega) (by omega) (by omega) fun h' tk hk => ⟨rfl, I.turnedL (t' := tk) (ch := [z, TI, TO, i1, i2, i3]) (fun d o hb q =>
      hk d o (fun q' => hb (by simp [q'])) (fun q' => hb (by simp [q'])) (fun q' => hb (by simp [q'])) (fun q' => hb (by simp [q'])) (fun q' => hb (by simp [q'])) q) hf⟩
  self := fun A i s Q E st h => wpAny_pyIter_zip st.1 h
def iZipX3 (K : PySem.W.Frag) (ta : TA) : TI := fun σ H R => ta σ H fun vs H1 => ∃ a c e b1 b2 b3 xs ys zs, vs = [.ref a, .ref c, .ref e] ∧ SqB K b1 H1 a xs ∧ SqB K b2 H1 c ys ∧ SqB K b3 H1 e zs ∧ R (Itz3 K b1 b2 b3 a c e) H1
theorem pi_zipX3 {X : Cx} {e e2 e3 : Expr} {ta : TA} {p pos tpos : Pos} {elts : List Expr} {kk : Nat} (hg : Gl X "zip") (hm : X.mg "zip" = none) (ha : PA X [e, e2, e3] ta) (hp : plainE e = true) (hp2 : plainE e2 = true) (hp3 : plainE e3 = true) :
    PI X (.Tuple elts kk tpos) (.Call (.Name "zip" p) [e, e2, e3] [] pos) (iZipX3 X.K ta) := by
  refine ⟨fun pins s σ H R I h => ?_⟩
  refine wpAny_Call_Name_kw (ld_blt I hg hm PyProof.Rows.boot_zip (PyProof.Rows.callWith_type1 (thn (ha.run pos pins s σ H _ I h) fun us s1 ⟨vs, H1, I1, r1, q1⟩ => ?_) (star_cons hp) (back_any (by rw [List.all_cons, hp2, List.all_cons, hp3]; rfl))))
  obtain ⟨a, c, e, b1, b2, b3, xs, ys, zs, rfl, hqx, hqy, hqz, q⟩ := q1
  cases r1 with
  | cons r rr =>
    cases rr with
    | cons r' rr =>
      cases rr with
      | cons r'' rr =>
        cases rr
        cases r
        cases r'
        cases r''
        obtain ⟨its, rv, p1, l1, _⟩ := Inv_b I1 hqx
        obtain ⟨its2, rv2, p2, l2, _⟩ := Inv_b I1 hqy
        obtain ⟨its3, rv3, p3, l3, _⟩ := Inv_b I1 hqz
        refine zip_begins3 (begins_b b1 a its.toArray) (begins_b b2 c its2.toArray) (begins_b b3 e its3.toArray) p1 p2 p3 fun h' hz hTI hTO h1 h2 h3 hsz hk => wpAny_pyIter_zip hz ?_
        have I2 : L2.Inv X pins σ H1 { s1 with heap := h' } := I1.kept (t' := s1.toks) hk
        refine ⟨s1.heap.objs.size + 5, [s1.heap.objs.size + 5, s1.heap.objs.size + 3, s1.heap.objs.size + 4, s1.heap.objs.size, s1.heap.objs.size + 1, s1.heap.objs.size + 2], _, _, H1, rfl, I2,
          turn_zip3 ⟨zip_sep3 (fp1 := [a]) (fp2 := [c]) (fp3 := [e]) (fun b hb => by rw [List.mem_singleton.mp hb]; exact l1) (fun b hb => by rw [List.mem_singleton.mp hb]; exact l2) (fun b hb => by rw [List.mem_singleton.mp hb]; exact l3), Nat.ne_of_lt l1, Nat.ne_of_lt (Nat.lt_succ_of_lt l2), Nat.ne_of_lt (Nat.lt_succ_of_lt (Nat.lt_succ_of_lt l3))⟩,
          ⟨hz, hTI, ⟨_, _, _, hTO⟩, itB_new h1, itB_new h2, itB_new h3⟩, fun d hcm => ?_, q⟩
        have e' : d = s1.heap.objs.size + 5 ∨ d = s1.heap.objs.size + 3 ∨ d = s1.heap.objs.size + 4 ∨ d = s1.heap.objs.size ∨ d = s1.heap.objs.size + 1 ∨ d = s1.heap.objs.size + 2 := by simpa using hcm
        have hle : s1.heap.objs.size ≤ d := by
          rcases e' with z | z | z | z | z | z
          · rw [z]; exact Nat.le_add_right _ _
          · rw [z]; exact Nat.le_add_right _ _
          · rw [z]; exact Nat.le_add_right _ _
          · rw [z]; exact Nat.le_refl _
          · rw [z]; exact Nat.le_add_right _ _
          · rw [z]; exact Nat.le_add_right _ _
        exact I1.fpOk hle (I1.hok.fresh hle)
/-! on data -/
def zip3D : List D → List D → List D → List D
  | x :: xs, y :: ys, z :: zs => .tup [x, y, z] :: zip3D xs ys zs
  | _, _, _ => []
theorem zip3D_len : ∀ (xs ys zs : List D), (zip3D xs ys zs).length = min xs.length (min ys.length zs.length)
  | [], _, _ => by simp [zip3D]
  | _ :: _, [], _ => by simp [zip3D]
  | _ :: _, _ :: _, [] => by simp [zip3D]
  | x :: xs, y :: ys, z :: zs => by
    rw [zip3D, List.length_cons, zip3D_len]
    simp only [List.length_cons]
    omega
theorem zip3D_get : ∀ {xs ys zs : List D} {i : Nat} {d : D}, (zip3D xs ys zs)[i]? = some d → ∃ x y z, xs[i]? = some x ∧ ys[i]? = some y ∧ zs[i]? = some z ∧ d = .tup [x, y, z]
  | [], _, _, _, _, h => by simp [zip3D] at h
  | _ :: _, [], _, _, _, h => by simp [zip3D] at h
  | _ :: _, _ :: _, [], _, _, h => by simp [zip3D] at h
  | x :: xs, y :: ys, z :: zs, 0, d, h => by
    rw [zip3D] at h
    cases h
    exact ⟨x, y, z, rfl, rfl, rfl, rfl⟩
  | x :: xs, y :: ys, z :: zs, i + 1, d, h => by
    rw [zip3D, List.getElem?_cons_succ] at h
    exact zip3D_get (xs := xs) (ys := ys) (zs := zs) (i := i) h
def iZip3 (fs : EL) : EI := fun env M => match fs env M with
  | some ([x, y, z], M1) => match seqItems x, seqItems y, seqItems z with
    | some xs, some ys, some zs => some (zip3D xs ys zs, M1)
    | _, _, _ => none
  | _ => none
theorem walk_zip3 {K : PySem.W.Frag} {W : Wd} {M : List MO} {H : Hp} {a c e : Addr} {b1 b2 b3 : Bool} {vs us ws : List V} {ds es gs : List D} (i : Nat) (w : Rw K W M H) (h : SqB K b1 H a vs) (h2 : SqB K b2 H c us) (h3 : SqB K b3 H e ws) (r : RepsW K W vs ds) (r2 : RepsW K W us es) (r3 : RepsW K W ws gs) :
    ((zip3D ds es gs).length = i → (Itz3 K b1 b2 b3 a c e).stop i H) ∧ (∀ d, (zip3D ds es gs)[i]? = some d → (Itz3 K b1 b2 b3 a c e).go i H ∧ ∀ x H', (Itz3 K b1 b2 b3 a c e).yld i H x H' → ∃ W', Evo W W' ∧ Rw K W' M H' ∧ RepW K W' x d) := by
  refine ⟨fun hl => ⟨vs, us, ws, h, h2, h3, ?_⟩, fun d hd => ?_⟩
  · rw [r.length, r2.length, r3.length, ← zip3D_len]
    exact hl
  · obtain ⟨x, y, z, e1, e2, e3, rfl⟩ := zip3D_get hd
    obtain ⟨v, hv, rv⟩ := r.get e1
    obtain ⟨u, hu, ru⟩ := r2.get e2
    obtain ⟨t, ht, rt⟩ := r3.get e3
    refine ⟨⟨vs, us, ws, v, u, t, h, h2, h3, hv, hu, ht⟩, fun z H' ⟨T, x', y', z', o, ex, hT, ho, eH, hx, hy, hz⟩ => ?_⟩
    subst ex eH
    have q1 := hx vs h
    rw [hv] at q1
    cases q1
    have q2 := hy us h2
    rw [hu] at q2
    cases q2
    have q3 := hz ws h3
    rw [ht] at q3
    cases q3
    exact w.newT hT o ho (.cons rv (.cons ru (.cons rt .nil)))
theorem zip3_some {fs : EL} {env : Env} {M M' : List MO} {ds : List D} (e : iZip3 fs env M = some (ds, M')) : ∃ x y z xs ys zs, fs env M = some ([x, y, z], M') ∧ seqItems x = some xs ∧ seqItems y = some ys ∧ seqItems z = some zs ∧ ds = zip3D xs ys zs := by
  unfold iZip3 at e
  split at e
  · rename_i x y z M1 h
    split at e
    · rename_i xs ys zs h1 h2 h3
      cases e
      exact ⟨x, y, z, xs, ys, zs, h, h1, h2, h3, rfl⟩
    · cases e
  · cases e
section
variable {X : Cx} {e e2 e3 : Expr} {fs : EL} {p pos tpos : Pos} {elts : List Expr} {kk : Nat}
theorem iZip3P (hg : Gl X "zip") (hm : X.mg "zip" = none) (ha : PA X [e, e2, e3] (tLP X.K fs)) (hp : plainE e = true) (hp2 : plainE e2 = true) (hp3 : plainE e3 = true) : PI X (.Tuple elts kk tpos) (.Call (.Name "zip" p) [e, e2, e3] [] pos) (tI X.K (iZip3 fs)) := PI.imp (pi_zipX3 hg hm ha hp hp2 hp3) fun σ H R h => by
  obtain ⟨W, env, M, ds, M', w, re, e, q⟩ := h
  obtain ⟨x, y, z, xs, ys, zs, e1, e2, e3, e4, rfl⟩ := zip3_some e
  refine ⟨W, env, M, _, M', w, re, e1, fun vs H' W' ev w' r => ?_⟩
  cases r with
  | cons rv r =>
    cases r with
    | cons ru r =>
      cases r with
      | cons rt r =>
        cases r
        obtain ⟨a, vs, rfl, h1, r1⟩ := rv.seqB w' e2
        obtain ⟨c, us, rfl, h2, r2⟩ := ru.seqB w' e3
        obtain ⟨d, ws, rfl, h3, r3⟩ := rt.seqB w' e4
        refine ⟨a, c, d, _, _, _, vs, us, ws, rfl, h1, h2, h3, q _ _ _ ev w' fun i W2 M2 H2 e5 w2 => ?_⟩
        obtain ⟨a2, vs2, ea, h4, r4⟩ := (rv.evoO e5).seqB w2 e2
        cases ea
        obtain ⟨c2, us2, ec, h5, r5⟩ := (ru.evoO e5).seqB w2 e3
        cases ec
        obtain ⟨d2, ws2, ed, h6, r6⟩ := (rt.evoO e5).seqB w2 e4
        cases ed
        exact walk_zip3 i w2 h4 h5 h6 r4 r5 r6
theorem iZip3F (hg : Gl X "zip") (hm : X.mg "zip" = none) (ha : PA X [e, e2, e3] (tL X.K fs)) (hp : plainE e = true) (hp2 : plainE e2 = true) (hp3 : plainE e3 = true) : PI X (.Tuple elts kk tpos) (.Call (.Name "zip" p) [e, e2, e3] [] pos) (tIS X.K (iZip3 fs)) := PI.imp (pi_zipX3 hg hm ha hp hp2 hp3) fun σ H R h => by
  obtain ⟨W, env, M, ds, M', w, re, e, q⟩ := h
  obtain ⟨x, y, z, xs, ys, zs, e1, e2, e3, e4, rfl⟩ := zip3_some e
  refine ⟨W, env, M, _, M', w, re, e1, fun vs H' W' ev w' r => ?_⟩
  cases r with
  | cons rv r =>
    cases r with
    | cons ru r =>
      cases r with
      | cons rt r =>
        cases r
        obtain ⟨a, vs, rfl, h1, r1⟩ := (RepP.fz rv).seqB w' e2
        obtain ⟨c, us, rfl, h2, r2⟩ := (RepP.fz ru).seqB w' e3
        obtain ⟨d, ws, rfl, h3, r3⟩ := (RepP.fz rt).seqB w' e4
        refine ⟨a, c, d, _, _, _, vs, us, ws, rfl, h1, h2, h3, q _ _ _ ev w' fun i W2 M2 H2 e5 w2 => ?_⟩
        obtain ⟨a2, vs2, ea, h4, r4⟩ := (RepP.fz (rv.evoG e5)).seqB w2 e2
        cases ea
        obtain ⟨c2, us2, ec, h5, r5⟩ := (RepP.fz (ru.evoG e5)).seqB w2 e3
        cases ec
        obtain ⟨d2, ws2, ed, h6, r6⟩ := (RepP.fz (rt.evoG e5)).seqB w2 e4
        cases ed
        exact walk_zip3 i w2 h4 h5 h6 r4 r5 r6
end
end R

set_option Elab.async false
set_option linter.all false
set_option maxRecDepth 100000
set_option maxHeartbeats 2000000
/-! R11: expressions compiled, by fuel -/
namespace R
open PySem PySem.Spec PyProof.Rows L2

abbrev CE := Expr → Option RE
abbrev CT := Expr → Option RB
abbrev Rec := Scope → (Str → Bool) → CE × CT
/-- the names that stand in two lists of slots -/
def cCst : Const → Option D
  | .int i => some (.int i)
  | .bool b => some (.bl b)
  | .none => some .non
  | .str x => if PyData.strOk x then some (.str x) else none
  | _ => none
theorem cCst_ok {X : Cx} {k : Const} {j : Nat} {pos : Pos} {d : D} (h : cCst k = some d) : PE X (.Constant k j pos) (tF X.K (eCst d)) := by
  unfold cCst at h
  split at h
  · cases h
    exact pConst pe_int fun _ => .int _
  · cases h
    exact pConst pe_bl fun _ => .bl _
  · cases h
    exact pConst pe_non fun _ => .non
  · split at h
    · rename_i ho
      cases h
      exact pConst pe_str fun _ => .str _ ho
    · cases h
  · cases h
def plainIxB : Expr → Bool
  | .Name .. => true
  | .Constant .. => true
  | .BinOp .. => true
  | .UnaryOp .. => true
  | .Call .. => true
  | .Subscript .. => true
  | _ => false
theorem plainIx_of {b : Expr} (h : plainIxB b = true) : PlainIx b := by
  cases b <;> first | (intro _ _; rfl) | cases h
def tvB : Expr → Bool
  | .Name .. => true
  | .Call .. => true
  | .Subscript .. => true
  | _ => false
theorem tv_of {a : Expr} {env : PySem.Env} (h : tvB a = true) : ∀ whole, isTrue a env whole = (do let v ← whole; standAt a.pos; holding [v] (truthy v)) := by
  cases a <;> first | (intro _; rfl) | cases h

def recvB : Expr → Bool
  | .Name .. => true
  | .Subscript .. => true
  | .ListComp .. => true
  | .List .. => true
  | .Constant .. => true
  | .Call _ (_ :: _) _ _ => true
  | _ => false
theorem attrBase_of {o : Expr} {m : Str} {env : PySem.Env} (h : recvB o = true) : attributeBase o m env (eval o env) = eval o env := by
  unfold recvB at h
  split at h
  all_goals first
    | rfl
    | (rename_i f _ _ _ _
       cases f <;> rfl)
    | cases h

/-! ### targets -/
def cG (c : Cn) (sc : Scope) (fnS : Str → Bool) : Nat → Expr → Option Tg
  | 0, _ => none
  | n + 1, e => match e with
    | .Name x _ => match findIx x c.N with
      | some i => if locB sc x || (celB sc x && fnS x) then some (.nm i) else none
      | none => none
    | .Tuple es _ _ => if es.all plainE then (es.mapM (cG c sc fnS n)).map .tp else none
    | _ => none
theorem locs_of {X : Cx} {c : Cn} {sc : Scope} {fnS : Str → Bool} {x : Str} (C : Ctx X c sc fnS) (h : (locB sc x || (celB sc x && fnS x)) = true) : Loc X.env.scope x ∧ (X.fn x = true ∨ X.env.scope.names.lookup x = some .local) := by
  rw [C.scope]
  rw [Bool.or_eq_true] at h
  rcases h with h | h
  · unfold locB at h
    split at h
    · rename_i e
      exact ⟨.inl e, .inr e⟩
    · cases h
  · rw [Bool.and_eq_true] at h
    obtain ⟨h1, h2⟩ := h
    unfold celB at h1
    split at h1
    · rename_i e
      exact ⟨.inr e, .inl (C.fn x h2)⟩
    · cases h1
theorem cG_ok {X : Cx} {c : Cn} {sc : Scope} {fnS : Str → Bool} (C : Ctx X c sc fnS) : ∀ (n : Nat) {e : Expr} {t : Tg}, cG c sc fnS n e = some t → PG X e (tG X.K t)
  | 0, _, _, h => by cases h
  | n + 1, e, t, h => by
    unfold cG at h
    split at h
    · rename_i x p
      split at h
      · rename_i i hi
        split at h
        · rename_i hc
          cases h
          obtain ⟨a, b⟩ := locs_of C hc
          exact gNm C.nd (by rw [C.n]; exact findIx_some hi) a b
        · cases h
      · cases h
    · rename_i es k p
      split at h
      · rename_i hp
        cases hm : es.mapM (cG c sc fnS n) with
        | none =>
          rw [hm] at h
          cases h
        | some ts =>
          rw [hm] at h
          cases h
          have key : ∀ (es : List Expr) (ts : List Tg), es.all plainE = true → es.mapM (cG c sc fnS n) = some ts → PGs X es (tGs X.K ts) ∧ es.length = ts.length := by
            intro es
            induction es with
            | nil =>
              intro ts _ hm
              cases hm
              exact ⟨gsNil, rfl⟩
            | cons e es ih =>
              intro ts hp hm
              rw [List.all_cons, Bool.and_eq_true] at hp
              rw [List.mapM_cons] at hm
              cases h1 : cG c sc fnS n e with
              | none =>
                rw [h1] at hm
                cases hm
              | some t =>
                cases h2 : es.mapM (cG c sc fnS n) with
                | none =>
                  rw [h1, h2] at hm
                  cases hm
                | some us =>
                  rw [h1, h2] at hm
                  cases hm
                  obtain ⟨a, b⟩ := ih us hp.2 h2
                  exact ⟨gsCons hp.1 (cG_ok C n h1) a, by rw [List.length_cons, List.length_cons, b]⟩
          obtain ⟨a, b⟩ := key es ts hp hm
          exact gTp C.calm hp a b
      · cases h
    · cases h

/-! ### what is walked -/
def isRange (c : Cn) (sc : Scope) (x : Str) : Bool := decide (x = "range") && glB sc x
def isGl (c : Cn) (sc : Scope) (x y : Str) : Bool := decide (x = y) && glB sc x
def isTup : Expr → Bool
  | .Tuple .. => true
  | _ => false
def cIF (c : Cn) (sc : Scope) (E : CE) (tg : Expr) (e : Expr) : Option (EI × List Nat) := match e with
  | .Call (.Name "enumerate" _) [a] [] _ => if glB sc "enumerate" && isTup tg then (cF c sc E a).map fun r => (iEnumD r.1, r.2) else none
  | .Call (.Name "zip" _) [a, b] [] _ => if glB sc "zip" && isTup tg then (match cF c sc E a, cF c sc E b with
      | some r, some t => some (iZipD (eCons r.1 (eCons t.1 eNil)), r.2 ++ t.2)
      | _, _ => none) else none
  | .Call (.Name "zip" _) [a, b, d] [] _ => if glB sc "zip" && isTup tg then (match cF c sc E a, cF c sc E b, cF c sc E d with
      | some r, some t, some u => some (iZip3 (eCons r.1 (eCons t.1 (eCons u.1 eNil))), r.2 ++ (t.2 ++ u.2))
      | _, _, _ => none) else none
  | .Call (.Name x _) [a] [] _ => if isRange c sc x then (cP c sc E a).map fun r => (iRng (eCons r.1 eNil), r.2) else (cF c sc E e).map fun r => (iSeq r.1, r.2)
  | .Call (.Name x _) [a, b] [] _ => if isRange c sc x then (match cP c sc E a, cP c sc E b with
      | some r, some t => some (iRng (eCons r.1 (eCons t.1 eNil)), r.2 ++ t.2)
      | _, _ => none) else (cF c sc E e).map fun r => (iSeq r.1, r.2)
  | e => (cF c sc E e).map fun r => (iSeq r.1, r.2)
def cIP (c : Cn) (sc : Scope) (E : CE) (tg : Expr) (e : Expr) : Option (EI × List Nat) := match e with
  | .Call (.Name "enumerate" _) [a] [] _ => if glB sc "enumerate" && isTup tg then (cP c sc E a).map fun r => (iEnumD r.1, r.2) else none
  | .Call (.Name "zip" _) [a, b] [] _ => if glB sc "zip" && isTup tg then (match cP c sc E a, cP c sc E b with
      | some r, some t => some (iZipD (eCons r.1 (eCons t.1 eNil)), r.2 ++ t.2)
      | _, _ => none) else none
  | .Call (.Name "zip" _) [a, b, d] [] _ => if glB sc "zip" && isTup tg then (match cP c sc E a, cP c sc E b, cP c sc E d with
      | some r, some t, some u => some (iZip3 (eCons r.1 (eCons t.1 (eCons u.1 eNil))), r.2 ++ (t.2 ++ u.2))
      | _, _, _ => none) else none
  | .Call (.Name x _) [a] [] _ => if isRange c sc x then (cP c sc E a).map fun r => (iRng (eCons r.1 eNil), r.2) else (cP c sc E e).map fun r => (iSeq r.1, r.2)
  | .Call (.Name x _) [a, b] [] _ => if isRange c sc x then (match cP c sc E a, cP c sc E b with
      | some r, some t => some (iRng (eCons r.1 (eCons t.1 eNil)), r.2 ++ t.2)
      | _, _ => none) else (cP c sc E e).map fun r => (iSeq r.1, r.2)
  | e => (cP c sc E e).map fun r => (iSeq r.1, r.2)
section
variable {X : Cx} {c : Cn} {sc : Scope} {fnS : Str → Bool} {E : CE} {tg : Expr}
theorem isRange_of (C : Ctx X c sc fnS) {x : Str} (h : isRange c sc x = true) : x = "range" ∧ Gl X x ∧ X.mg x = none := by
  unfold isRange at h
  rw [Bool.and_eq_true, decide_eq_true_eq] at h
  exact ⟨h.1, glB_of C h.2, by rw [h.1]; exact C.blt _ (by decide)⟩
theorem isTup_of (h : isTup tg = true) : ∃ es k p, tg = .Tuple es k p := by
  cases tg <;> first | exact ⟨_, _, _, rfl⟩ | cases h
theorem cIF_ok (C : Ctx X c sc fnS) (hE : SE X E) {e : Expr} {r : EI × List Nat} (h : cIF c sc E tg e = some r) : PI X tg e (tIS X.K r.1) := by
  have gen : ∀ {e : Expr}, (cF c sc E e).map (fun r => (iSeq r.1, r.2)) = some r → PI X tg e (tIS X.K r.1) := fun {e} h => by
    cases hf : cF c sc E e with
    | none =>
      rw [hf] at h
      cases h
    | some q =>
      rw [hf] at h
      cases h
      exact iSeqF (cF_ok C hE hf).1
  unfold cIF at h
  split at h
  · split at h
    · rename_i hc
      rw [Bool.and_eq_true] at hc
      obtain ⟨es, k, p, rfl⟩ := isTup_of hc.2
      obtain ⟨q, h1, rfl⟩ := map_some h
      obtain ⟨p1, p2⟩ := cF_ok C hE h1
      exact iEnumF (glB_of C hc.1) (C.blt _ (by decide)) p1 p2
    · cases h
  · split at h
    · rename_i hc
      rw [Bool.and_eq_true] at hc
      obtain ⟨es, k, p, rfl⟩ := isTup_of hc.2
      split at h
      · rename_i q t h1 h2
        cases h
        obtain ⟨p1, p2⟩ := cF_ok C hE h1
        obtain ⟨p3, p4⟩ := cF_ok C hE h2
        exact iZipF (glB_of C hc.1) (C.blt _ (by decide)) (pCons p1 (pCons p3 pNil (star_cons p4)) (star_cons p2)) p2 p4
      · cases h
    · cases h
  · split at h
    · rename_i hc
      rw [Bool.and_eq_true] at hc
      obtain ⟨es, k, p, rfl⟩ := isTup_of hc.2
      split at h
      · rename_i q t u h1 h2 h3
        cases h
        obtain ⟨p1, p2⟩ := cF_ok C hE h1
        obtain ⟨p3, p4⟩ := cF_ok C hE h2
        obtain ⟨p5, p6⟩ := cF_ok C hE h3
        exact iZip3F (glB_of C hc.1) (C.blt _ (by decide)) (pCons p1 (pCons p3 (pCons p5 pNil (star_cons p6)) (star_cons p4)) (star_cons p2)) p2 p4 p6
      · cases h
    · cases h
  · split at h
    · rename_i x p a pos _ hr
      obtain ⟨rfl, g, m⟩ := isRange_of C hr
      cases hp : cP c sc E a with
      | none =>
        rw [hp] at h
        cases h
      | some q =>
        rw [hp] at h
        cases h
        obtain ⟨p1, p2⟩ := cP_ok C hE hp
        exact iRng1 g m p2 p1
    · exact gen h
  · split at h
    · rename_i x p a b pos _ hr
      obtain ⟨rfl, g, m⟩ := isRange_of C hr
      split at h
      · rename_i q t h1 h2
        cases h
        obtain ⟨p1, p2⟩ := cP_ok C hE h1
        obtain ⟨p3, p4⟩ := cP_ok C hE h2
        exact iRng2 g m p2 p4 p1 p3
      · cases h
    · exact gen h
  · exact gen h
theorem cIP_ok (C : Ctx X c sc fnS) (hE : SE X E) {e : Expr} {r : EI × List Nat} (h : cIP c sc E tg e = some r) : PI X tg e (tI X.K r.1) := by
  have gen : ∀ {e : Expr}, (cP c sc E e).map (fun r => (iSeq r.1, r.2)) = some r → PI X tg e (tI X.K r.1) := fun {e} h => by
    cases hf : cP c sc E e with
    | none =>
      rw [hf] at h
      cases h
    | some q =>
      rw [hf] at h
      cases h
      exact iSeqP (cP_ok C hE hf).1
  unfold cIP at h
  split at h
  · split at h
    · rename_i hc
      rw [Bool.and_eq_true] at hc
      obtain ⟨es, k, p, rfl⟩ := isTup_of hc.2
      obtain ⟨q, h1, rfl⟩ := map_some h
      obtain ⟨p1, p2⟩ := cP_ok C hE h1
      exact iEnumP (glB_of C hc.1) (C.blt _ (by decide)) p1 p2
    · cases h
  · split at h
    · rename_i hc
      rw [Bool.and_eq_true] at hc
      obtain ⟨es, k, p, rfl⟩ := isTup_of hc.2
      split at h
      · rename_i q t h1 h2
        cases h
        obtain ⟨p1, p2⟩ := cP_ok C hE h1
        obtain ⟨p3, p4⟩ := cP_ok C hE h2
        exact iZipP (glB_of C hc.1) (C.blt _ (by decide)) (pConsP p1 (pConsP p3 pNilP (star_cons p4)) (star_cons p2)) p2 p4
      · cases h
    · cases h
  · split at h
    · rename_i hc
      rw [Bool.and_eq_true] at hc
      obtain ⟨es, k, p, rfl⟩ := isTup_of hc.2
      split at h
      · rename_i q t u h1 h2 h3
        cases h
        obtain ⟨p1, p2⟩ := cP_ok C hE h1
        obtain ⟨p3, p4⟩ := cP_ok C hE h2
        obtain ⟨p5, p6⟩ := cP_ok C hE h3
        exact iZip3P (glB_of C hc.1) (C.blt _ (by decide)) (pConsP p1 (pConsP p3 (pConsP p5 pNilP (star_cons p6)) (star_cons p4)) (star_cons p2)) p2 p4 p6
      · cases h
    · cases h
  · split at h
    · rename_i x p a pos _ hr
      obtain ⟨rfl, g, m⟩ := isRange_of C hr
      cases hp : cP c sc E a with
      | none =>
        rw [hp] at h
        cases h
      | some q =>
        rw [hp] at h
        cases h
        obtain ⟨p1, p2⟩ := cP_ok C hE hp
        exact piP (iRng1 g m p2 p1)
    · exact gen h
  · split at h
    · rename_i x p a b pos _ hr
      obtain ⟨rfl, g, m⟩ := isRange_of C hr
      split at h
      · rename_i q t h1 h2
        cases h
        obtain ⟨p1, p2⟩ := cP_ok C hE h1
        obtain ⟨p3, p4⟩ := cP_ok C hE h2
        exact piP (iRng2 g m p2 p4 p1 p3)
      · cases h
    · exact gen h
  · exact gen h
end

/-! ### comprehensions -/
def ownOf (N : List Str) (scope : Scope) : List (Str × Nat) := scope.names.filterMap fun y => match y.2 with
  | .local => (findIx y.1 N).map fun i => (y.1, i)
  | .cell => (findIx y.1 N).map fun i => (y.1, i)
  | _ => none
def noSet : Expr → Bool
  | .Set .. => false
  | _ => true
theorem noSet_of {e : Expr} {env : PySem.Env} (h : noSet e = true) : ∀ x, foldedSetIterable e env x = pure x := by
  cases e <;> first | (intro _; rfl) | cases h
def isFun (k : ScopeKind) : Bool := match k with
  | .function => true
  | _ => false
def xComp (c : Cn) (sc : Scope) (rec : Rec) (E : CE) (elt tg iter : Expr) (ifs : List Expr) (scope : Scope) : Option RE :=
  if blkC c.N sc scope (ownOf c.N scope) && noSet iter && isFun scope.kind then
    match cIP c sc E tg iter, cG c (relS scope sc) (celB scope) 4 tg, cF c (relS scope sc) (rec (relS scope sc) (celB scope)).1 elt with
    | some it, some t, some f => if t.slots.all ((ownOf c.N scope).map (·.2)).contains then (match ifs with
        | [] => some (eComp ((ownOf c.N scope).map (·.2)) it.1 t eYes f.1, it.2 ++ f.2)
        | [q] => (match (rec (relS scope sc) (celB scope)).2 q with
          | some g => some (eComp ((ownOf c.N scope).map (·.2)) it.1 t g.1 f.1, it.2 ++ (g.2 ++ f.2))
          | none => none)
        | _ => none) else none
    | _, _, _ => none
  else none
theorem Ctx.blk {X : Cx} {c : Cn} {sc : Scope} {fnS : Str → Bool} (C : Ctx X c sc fnS) {scope : Scope} (hk : scope.kind = .function) (s : Shared) (H : Hp) (a : Addr) (cl : List (Str × Addr)) (fp : List Addr) :
    Ctx (X.blk s H scope (compEnvC scope cl a X.env) fp) c (relS scope sc) (celB scope) where
  calm := C.calm
  nd := C.nd
  n := C.n
  scope := by
    rw [← C.scope]
    rfl
  kind := hk
  fn := fun x h => by
    unfold celB at h
    split at h
    · rename_i e
      show (scope.names.lookup x == some .cell) = true
      rw [e]
      rfl
    · cases h
  xe := rfl
  hu := C.hu
  blt := C.blt
  cst := C.cst
  fns := C.fns
def RecOk (c : Cn) (rec : Rec) : Prop := ∀ (X : Cx) (sc : Scope) (fnS : Str → Bool), Ctx X c sc fnS → SE X (rec sc fnS).1 ∧ ST X (rec sc fnS).2
section
variable {X : Cx} {c : Cn} {sc : Scope} {fnS : Str → Bool} {E : CE} {rec : Rec}
/-- the parts of a comprehension -/
theorem xComp_parts (C : Ctx X c sc fnS) (hE : SE X E) (hr : RecOk c rec) {elt tg iter : Expr} {ifs : List Expr} {scope : Scope} {r : RE} (h : xComp c sc rec E elt tg iter ifs scope = some r) :
    ∃ (it : EI) (t : Tg) (cond : EB) (f : EP), r.1 = eComp ((ownOf c.N scope).map (·.2)) it t cond f ∧ PI X tg iter (tI X.K it) ∧ BlkOk X.N X.env.scope scope (ownOf c.N scope) ∧
      (∀ (s : Shared) (H : Hp) (C : Addr) (cl : List (Str × Addr)) (fp : List Addr), PG (X.blk s H scope (compEnvC scope cl C X.env) fp) tg (tG X.K t)) ∧
      (∀ (s : Shared) (H : Hp) (C : Addr) (cl : List (Str × Addr)) (fp : List Addr), PTs (X.blk s H scope (compEnvC scope cl C X.env) fp) ifs (tT X.K cond)) ∧
      (∀ (s : Shared) (H : Hp) (C : Addr) (cl : List (Str × Addr)) (fp : List Addr), PE (X.blk s H scope (compEnvC scope cl C X.env) fp) elt (tF X.K f)) ∧
      (∀ x, foldedSetIterable iter X.env x = pure x) ∧ (∀ j ∈ t.slots, j ∈ (ownOf c.N scope).map (·.2)) := by
  unfold xComp at h
  split at h
  · rename_i hc
    simp only [Bool.and_eq_true] at hc
    obtain ⟨⟨hb, hs⟩, hk⟩ := hc
    have hk' : scope.kind = .function := by
      unfold isFun at hk
      split at hk
      · assumption
      · cases hk
    have ok : BlkOk X.N X.env.scope scope (ownOf c.N scope) := by
      rw [C.n, C.scope]
      exact blkOk_by hb
    split at h
    · rename_i it t f h1 h2 h3
      split at h
      · rename_i hsub
        have sub : ∀ j ∈ t.slots, j ∈ (ownOf c.N scope).map (·.2) := fun j hj => by
          have z := (List.all_eq_true.mp hsub) j hj
          simpa using z
        have hg : ∀ (s : Shared) (H : Hp) (a : Addr) (cl : List (Str × Addr)) (fp : List Addr), PG (X.blk s H scope (compEnvC scope cl a X.env) fp) tg (tG X.K t) := fun s H a cl fp => cG_ok (C.blk hk' s H a cl fp) 4 h2
        have hf : ∀ (s : Shared) (H : Hp) (a : Addr) (cl : List (Str × Addr)) (fp : List Addr), PE (X.blk s H scope (compEnvC scope cl a X.env) fp) elt (tF X.K f.1) := fun s H a cl fp => (cF_ok (C.blk hk' s H a cl fp) (hr _ _ _ (C.blk hk' s H a cl fp)).1 h3).1
        split at h
        · cases h
          exact ⟨_, _, _, _, rfl, cIP_ok C hE h1, ok, hg, fun s H a cl fp => ptsNil, hf, noSet_of hs, sub⟩
        · rename_i q
          split at h
          · rename_i g hq
            cases h
            exact ⟨_, _, _, _, rfl, cIP_ok C hE h1, ok, hg, fun s H a cl fp => ⟨fun pins s2 σ H2 Q I hh => (pts_one ((hr _ _ _ (C.blk hk' s H a cl fp)).2 _ _ hq)).run pins s2 σ H2 Q I hh⟩, hf, noSet_of hs, sub⟩
          · cases h
        · cases h
      · cases h
    · cases h
  · cases h
theorem xComp_ok (C : Ctx X c sc fnS) (hE : SE X E) (hr : RecOk c rec) {elt tg iter : Expr} {ifs : List Expr} {scope : Scope} {pos : Pos} {r : RE} (h : xComp c sc rec E elt tg iter ifs scope = some r) : PE X (.ListComp elt [⟨tg, iter, ifs, 0⟩] scope pos) (tE X.K r.1) := by
  obtain ⟨it, t, cond, f, e, a1, a2, a3, a4, a5, a6, a7⟩ := xComp_parts C hE hr h
  rw [e]
  exact pComp C.calm C.nd a1 a2 a3 a4 a5 a6 a7
end

/-! ### built-in functions -/
def bFnB (x : Str) (n : Nat) : Option OpN := if x = "sorted" ∧ n = 1 then some dSorted else if x = "dict" ∧ n = 1 then some dDict else if x = "max" ∧ n = 1 then some (dBest true) else if x = "min" ∧ n = 1 then some (dBest false) else none
def bFn (x : Str) (n : Nat) : Option OpN :=
  if x = "len" ∧ n = 1 then some dLen else if x = "tuple" ∧ n = 1 then some dTuple else if x = "list" ∧ n = 1 then some dList else if x = "all" ∧ n = 1 then some dAll else if x = "any" ∧ n = 1 then some dAny else if x = "sum" ∧ n = 1 then some dSum
  else if x = "int" ∧ n = 1 then some dInt else if x = "abs" ∧ n = 1 then some dAbs else if x = "max" ∧ n = 2 then some dMax2 else if x = "min" ∧ n = 2 then some dMin2 else bFnB x n
theorem bFn_ok {X : Cx} {c : Cn} {sc : Scope} {fnS : Str → Bool} {x : Str} {p pos : Pos} {e : Expr} {es : List Expr} {f : OpN} {fs : EL} (C : Ctx X c sc fnS) (h : bFn x (e :: es).length = some f) (hg : glB sc x = true) (hp : (e :: es).all plainE = true) (ha : PA X (e :: es) (tLP X.K fs)) :
    PE X (.Call (.Name x p) (e :: es) [] pos) (tE X.K (eCall f fs)) := by
  have g := glB_of C hg
  have m : x ∈ bNames → X.mg x = none := fun h => C.blt x h
  unfold bFn at h
  split at h
  · rename_i z
    obtain ⟨rfl, _⟩ := z
    cases h
    exact pCallB call_lenX ok_len g (m (by decide)) (by decide +kernel) (by decide) (by decide) hp ha
  split at h
  · rename_i z
    obtain ⟨rfl, _⟩ := z
    cases h
    exact pCallTy call_tuple_ofN ok_tuple g (m (by decide)) (by decide +kernel) (by decide) (by decide) hp ha
  split at h
  · rename_i z
    obtain ⟨rfl, _⟩ := z
    cases h
    exact pCallTy call_list_of ok_list g (m (by decide)) (by decide +kernel) (by decide) (by decide) hp ha
  split at h
  · rename_i z
    obtain ⟨rfl, _⟩ := z
    cases h
    exact pCallB (cr_all C.calm) ok_all g (m (by decide)) (by decide +kernel) (by decide) (by decide) hp ha
  split at h
  · rename_i z
    obtain ⟨rfl, _⟩ := z
    cases h
    exact pCallB (cr_any C.calm) ok_any g (m (by decide)) (by decide +kernel) (by decide) (by decide) hp ha
  split at h
  · rename_i z
    obtain ⟨rfl, _⟩ := z
    cases h
    exact pCallB (cr_sum C.calm) ok_sum g (m (by decide)) (by decide +kernel) (by decide) (by decide) hp ha
  split at h
  · rename_i z
    obtain ⟨rfl, _⟩ := z
    cases h
    exact pCallTy call_int1 ok_int g (m (by decide)) (by decide +kernel) (by decide) (by decide) hp ha
  split at h
  · rename_i z
    obtain ⟨rfl, _⟩ := z
    cases h
    exact pCallB call_abs ok_abs g (m (by decide)) (by decide +kernel) (by decide) (by decide) hp ha
  split at h
  · rename_i z
    obtain ⟨rfl, _⟩ := z
    cases h
    exact pCallB (call_max2 C.calm) ok_max2 g (m (by decide)) (by decide +kernel) (by decide) (by decide) hp ha
  split at h
  · rename_i z
    obtain ⟨rfl, _⟩ := z
    cases h
    exact pCallB (call_min2 C.calm) ok_min2 g (m (by decide)) (by decide +kernel) (by decide) (by decide) hp ha
  unfold bFnB at h
  split at h
  · rename_i z
    obtain ⟨rfl, _⟩ := z
    cases h
    exact pCallB (cr_sortedD C.hu) ok_sorted g (m (by decide)) (by decide +kernel) (by decide) (by decide) hp ha
  split at h
  · rename_i z
    obtain ⟨rfl, _⟩ := z
    cases h
    exact pCallTy (cr_dict C.calm) ok_dict g (m (by decide)) (by decide +kernel) (by decide) (by decide) hp ha
  split at h
  · rename_i z
    obtain ⟨rfl, _⟩ := z
    cases h
    exact pCallB (cr_best C.calm C.hu true) ok_best g (m (by decide)) (by decide +kernel) (by decide) (by decide) hp ha
  split at h
  · rename_i z
    obtain ⟨rfl, _⟩ := z
    cases h
    exact pCallB (cr_best C.calm C.hu false) ok_best g (m (by decide)) (by decide +kernel) (by decide) (by decide) hp ha
  · cases h

/-! ### calls -/
def xCall2 (c : Cn) (sc : Scope) (E : CE) (x : Str) (es : List Expr) : Option RE := match x == "isinstance", es with
  | true, [a, .Name y _] => if glB sc y then (match isiTy y, cP c sc E a with
      | some T, some r => some (eUn (dIsi T) r.1, r.2)
      | _, _ => none) else none
  | _, [] => none
  | _, e :: es => match bFn x (e :: es).length, cLP c sc E (e :: es) with
    | some f, some r => some (eCall f r.1, r.2)
    | _, _ => none
def xCall (c : Cn) (sc : Scope) (E : CE) (x : Str) (es : List Expr) : Option RE :=
  if glB sc x && okName x then
    match c.fns.lookup x with
    | some en => match cLF c sc E es with
      | some r => if decide (en.ar = es.length) && !es.isEmpty then (if en.lv then some (eOld (eLive (eFn en.F r.1)), r.2) else some (eFn en.F r.1, r.2)) else none
      | none => none
    | none => match es with
      | [.Call (.Name "set" _) [a] [] _] => if glB sc "set" then (if x = "len" then (cP c sc E a).map fun r => (eUn dLenSet r.1, r.2) else if x = "sorted" then (cP c sc E a).map fun r => (eUn dSortSet r.1, r.2) else none) else none
      | [.Call (.Name "zip" _) [a, b] [] _] => if glB sc "zip" && decide (x = "list") then (match cP c sc E a, cP c sc E b with
        | some r, some t => some (eZipL (eCons r.1 (eCons t.1 eNil)), r.2 ++ t.2)
        | _, _ => none) else none
      | [.Call (.Name "range" _) (a :: l) [] _] => if glB sc "range" then (match cLP c sc E (a :: l) with
        | some r => if x = "list" then some (eRngL r.1, r.2) else if x = "tuple" then some (eRngT r.1, r.2) else none
        | none => none) else none
      | es => xCall2 c sc E x es
  else none
theorem xCall_ok {X : Cx} {c : Cn} {sc : Scope} {fnS : Str → Bool} {E : CE} (C : Ctx X c sc fnS) (hE : SE X E) {x : Str} {es : List Expr} {p pos : Pos} {r : RE} (h : xCall c sc E x es = some r) : PE X (.Call (.Name x p) es [] pos) (tE X.K r.1) := by
  unfold xCall at h
  split at h
  · rename_i hc
    rw [Bool.and_eq_true] at hc
    obtain ⟨hg, ho⟩ := hc
    obtain ⟨n1, n2, n3⟩ := okName_of ho
    split at h
    · rename_i en hen
      split at h
      · rename_i q hq
        split at h
        · rename_i hl
          rw [Bool.and_eq_true, decide_eq_true_eq] at hl
          have main : PE X (.Call (.Name x p) es [] pos) (tE X.K (eFn en.F q.1)) := by
            obtain ⟨k, f, fd, ps, G, hr, hm, hk, hb, har⟩ := C.fns x en hen
            obtain ⟨a1, a2, a3⟩ := cLF_ok C hE hq
            cases es with
            | nil => exact absurd hl.2 (by simp)
            | cons e es => exact pFn G hr (glB_of C hg) hm hk hb a1 (by rw [har]; exact hl.1) a3 n1 a2
          split at h
          · cases h
            exact pOld (pLive main)
          · cases h
            exact main
        · cases h
      · cases h
    · split at h
      · rename_i p2 a pos2
        split at h
        · rename_i hs
          split at h
          · rename_i hx
            subst hx
            obtain ⟨q, h1, rfl⟩ := map_some h
            obtain ⟨q1, q2⟩ := cP_ok C hE h1
            exact pLenSet C.calm (glB_of C hg) (C.blt _ (by decide)) (glB_of C hs) (C.blt _ (by decide)) q1 q2
          · split at h
            · rename_i hx
              subst hx
              obtain ⟨q, h1, rfl⟩ := map_some h
              obtain ⟨q1, q2⟩ := cP_ok C hE h1
              exact pSortSet C.calm C.hu (glB_of C hg) (C.blt _ (by decide)) (glB_of C hs) (C.blt _ (by decide)) q1 q2
            · cases h
        · cases h
      · rename_i p2 a b pos2
        split at h
        · rename_i hs
          rw [Bool.and_eq_true, decide_eq_true_eq] at hs
          obtain ⟨hs, hx⟩ := hs
          subst hx
          split at h
          · rename_i q t h1 h2
            cases h
            obtain ⟨p1, p2⟩ := cP_ok C hE h1
            obtain ⟨p3, p4⟩ := cP_ok C hE h2
            exact pZipL C.calm (glB_of C hg) (C.blt _ (by decide)) (glB_of C hs) (C.blt _ (by decide)) (pConsP p1 (pConsP p3 pNilP (star_cons p4)) (star_cons p2)) p2 p4
          · cases h
        · cases h
      · rename_i p2 a l pos2
        split at h
        · rename_i hs
          split at h
          · rename_i q hq
            obtain ⟨q1, q2⟩ := cLP_ok C hE hq
            split at h
            · rename_i hx
              subst hx
              cases h
              exact pRngL C.calm (glB_of C hg) (C.blt _ (by decide)) (glB_of C hs) (C.blt _ (by decide)) q1 q2
            · split at h
              · rename_i hx
                subst hx
                cases h
                exact pRngT C.calm (glB_of C hg) (C.blt _ (by decide)) (glB_of C hs) (C.blt _ (by decide)) q1 q2
              · cases h
          · cases h
        · cases h
      · unfold xCall2 at h
        split at h
        · rename_i a y p2 hx _ _ _
          split at h
          · rename_i hgy
            split at h
            · rename_i T q hT hq
              cases h
              have ex : x = "isinstance" := eq_of_beq hx
              obtain ⟨b1, b2, b3, b4⟩ := isiTy_ok C hT
              obtain ⟨q1, q2⟩ := cP_ok C hE hq
              exact pIsi (glB_of C hg) (by rw [ex]; exact C.blt _ (by decide)) ex (glB_of C hgy) b1 b2 b3 b4 q2 q1
            · cases h
          · cases h
        · cases h
        · split at h
          · rename_i f q hf hq
            cases h
            obtain ⟨q1, q2⟩ := cLP_ok C hE hq
            exact bFn_ok C hf hg q2 q1
          · cases h
  · cases h

/-! ### the step -/
def cO (c : Cn) (sc : Scope) (E : CE) : Option Expr → Option (EO × List Nat)
  | none => some (eNoP, [])
  | some l => (cP c sc E l).map fun r => (eSomeP r.1, r.2)
def eStep (c : Cn) (sc : Scope) (fnS : Str → Bool) (rec : Rec) (e : Expr) : Option RE :=
  let E := (rec sc fnS).1
  let T := (rec sc fnS).2
  match e with
  | .Constant k _ _ => (cCst k).map fun d => (eOld (eCst d), [])
  | .Name x p => (cF c sc E (.Name x p)).map fun r => (eOld r.1, r.2)
  | .BinOp a op b _ => match bOp op, cP c sc E a, cP c sc E b with
    | some f, some r, some t => some (eOp f r.1 t.1, r.2 ++ t.2)
    | _, _, _ => none
  | .UnaryOp .USub a _ => (cP c sc E a).map fun r => (eUn dNeg r.1, r.2)
  | .UnaryOp .Not a _ => (cP c sc E a).map fun r => (eOld (bVal (eNot (tbV r.1))), r.2)
  | .Compare a [op] [b] _ => match cP c sc E a, cP c sc E b with
    | some r, some t => if behindInMarks op b then none else some (eOp (cOp op) r.1 t.1, r.2 ++ t.2)
    | _, _ => none
  | .Compare a [op, op'] [b, d] _ => match cP c sc E a, cP c sc E b, cP c sc E d with
    | some r, some t, some u => if lastMarks [op, op'] [b, d] then none else some (eChain (cOp op) (cOp op') r.1 t.1 u.1, r.2 ++ (t.2 ++ u.2))
    | _, _, _ => none
  | .BoolOp _ [a] _ => E a
  | .BoolOp .And (a :: b :: l) p => match cF c sc E a, E (.BoolOp .And (b :: l) p) with
    | some r, some t => some (vAnd (tbB r.1) t.1, r.2 ++ t.2)
    | _, _ => none
  | .BoolOp .Or (a :: b :: l) p => match cF c sc E a, E (.BoolOp .Or (b :: l) p) with
    | some r, some t => some (vOr (tbB r.1) t.1, r.2 ++ t.2)
    | _, _ => none
  | .IfExp q a b _ => match T q, E a, E b with
    | some g, some r, some t => some (eIf g.1 r.1 t.1, g.2 ++ (r.2 ++ t.2))
    | _, _, _ => none
  | .Tuple es _ _ => (cLF c sc E es).map fun r => (eTup r.1, r.2)
  | .List es _ => (cLF c sc E es).map fun r => (eLst r.1, r.2)
  | .Subscript a (.Slice none none (some (.UnaryOp .USub (.Constant (.int 1) _ _) _)) _) _ => (cP c sc E a).map fun r => (eUn dRev r.1, r.2)
  | .Subscript a (.Slice lo hi none _) _ => match cP c sc E a, cO c sc E lo, cO c sc E hi with
    | some r, some t, some u => some (eSl r.1 t.1 u.1, r.2 ++ (t.2 ++ u.2))
    | _, _, _ => none
  | .Subscript a b _ => match cP c sc E a, cP c sc E b with
    | some r, some t => if plainIxB b then some (eIxM r.1 t.1, r.2 ++ t.2) else none
    | _, _ => none
  | .ListComp elt [⟨tg, iter, ifs, 0⟩] scope _ => xComp c sc rec E elt tg iter ifs scope
  | .Call (.Name x _) es [] _ => xCall c sc E x es
  | .Dict [] [] _ => some (eDct0, [])
  | .Call (.Attribute o "index" apos) [e] [] cpos => if (apos.endLine == cpos.line) && recvB o then (match cP c sc E o, cP c sc E e with
    | some r, some t => some (eOp dIndex r.1 t.1, r.2 ++ t.2)
    | _, _ => none) else none
  | .Call (.Attribute o "get" apos) [e, f] [] cpos => if (apos.endLine == cpos.line) && recvB o then (match cP c sc E o, cP c sc E e, cF c sc E f with
    | some r, some t, some u => some (eGet2 r.1 t.1 u.1, r.2 ++ (t.2 ++ u.2))
    | _, _, _ => none) else none
  | _ => none
def cAnds (T : CT) : List Expr → Option RB
  | [] => none
  | [a] => T a
  | a :: b :: l => match T a, cAnds T (b :: l) with
    | some r, some t => some (eAnd r.1 t.1, r.2 ++ t.2)
    | _, _ => none
def cOrs (T : CT) : List Expr → Option RB
  | [] => none
  | [a] => T a
  | a :: b :: l => match T a, cOrs T (b :: l) with
    | some r, some t => some (eOr r.1 t.1, r.2 ++ t.2)
    | _, _ => none
def tStep (c : Cn) (sc : Scope) (fnS : Str → Bool) (rec : Rec) (e : Expr) : Option RB :=
  let E := (rec sc fnS).1
  let T := (rec sc fnS).2
  match e with
  | .BoolOp .And es _ => cAnds T es
  | .BoolOp .Or es _ => cOrs T es
  | .UnaryOp .Not a _ => (T a).map fun r => (eNot r.1, r.2)
  | .Compare a [op] [b] _ => match cP c sc E a, cP c sc E b with
    | some r, some t => if behindInMarks op b then none else some (tbB (eFz (eOp (cOp op) r.1 t.1)), r.2 ++ t.2)
    | _, _ => none
  | .Compare a [op, op'] [b, d] _ => match cP c sc E a, cP c sc E b, cP c sc E d with
    | some r, some t, some u => if lastMarks [op, op'] [b, d] then none else some (tbB (eFz (eChain (cOp op) (cOp op') r.1 t.1 u.1)), r.2 ++ (t.2 ++ u.2))
    | _, _, _ => none
  | e => if tvB e then (cP c sc E e).map fun r => (tbV r.1, r.2) else none
def cET (c : Cn) : Nat → Rec
  | 0 => fun _ _ => (fun _ => none, fun _ => none)
  | n + 1 => fun sc fnS => (eStep c sc fnS (cET c n), tStep c sc fnS (cET c n))
section
variable {X : Cx} {c : Cn} {sc : Scope} {fnS : Str → Bool} {rec : Rec}
theorem eStep_ok (C : Ctx X c sc fnS) (hr : RecOk c rec) : SE X (eStep c sc fnS rec) := by
  obtain ⟨hE, hT⟩ := hr X sc fnS C
  intro e r h
  unfold eStep at h
  dsimp only at h
  split at h
  · obtain ⟨d, h1, rfl⟩ := map_some h
    exact ⟨pOld (cCst_ok h1), rfl⟩
  · obtain ⟨d, h1, rfl⟩ := map_some h
    exact ⟨pOld (cF_ok C hE h1).1, rfl⟩
  · split at h
    · rename_i h1 h2 h3
      cases h
      obtain ⟨q, a1, a2⟩ := bOp_ok (X := X) h1
      exact ⟨pOp a1 a2 (cP_ok C hE h2).1 (cP_ok C hE h3).1, rfl⟩
    · cases h
  · obtain ⟨d, h1, rfl⟩ := map_some h
    exact ⟨pUn un_neg ok_neg (cP_ok C hE h1).1, rfl⟩
  · obtain ⟨d, h1, rfl⟩ := map_some h
    exact ⟨pOld (pNotT (cP_ok C hE h1).1), rfl⟩
  · split at h
    · rename_i h1 h2
      split at h
      · cases h
      · rename_i hm
        cases h
        obtain ⟨q, a1, a2⟩ := cOp_ok C.hu _
        exact ⟨pCmp a1 a2 (cP_ok C hE h1).1 (cP_ok C hE h2).1 (by simpa using hm), rfl⟩
    · cases h
  · split at h
    · rename_i h1 h2 h3
      split at h
      · cases h
      · rename_i hm
        cases h
        obtain ⟨q, a1, a2⟩ := cOp_ok C.hu _
        obtain ⟨q', b1, b2⟩ := cOp_ok C.hu _
        exact ⟨pChain a1 b1 a2 b2 (cP_ok C hE h1).1 (cP_ok C hE h2).1 (cP_ok C hE h3).1 (by simpa using hm), rfl⟩
    · cases h
  · exact ⟨pe_one (hE _ _ h).1, rfl⟩
  · split at h
    · rename_i h1 h2
      cases h
      exact ⟨pAnd (cF_ok C hE h1).1 (hE _ _ h2).1, rfl⟩
    · cases h
  · split at h
    · rename_i h1 h2
      cases h
      exact ⟨pOr (cF_ok C hE h1).1 (hE _ _ h2).1, rfl⟩
    · cases h
  · split at h
    · rename_i h1 h2 h3
      cases h
      exact ⟨pIf (hT _ _ h1) (hE _ _ h2).1 (hE _ _ h3).1, rfl⟩
    · cases h
  · obtain ⟨d, h1, rfl⟩ := map_some h
    exact ⟨pTup (cLF_ok C hE h1).1, rfl⟩
  · obtain ⟨d, h1, rfl⟩ := map_some h
    exact ⟨pLst (cLF_ok C hE h1).1, rfl⟩
  · obtain ⟨d, h1, rfl⟩ := map_some h
    exact ⟨pRev (cP_ok C hE h1).1, rfl⟩
  · have po : ∀ {o : Option Expr} {t : EO × List Nat}, cO c sc (rec sc fnS).1 o = some t → PO X o (tO X.K t.1) := fun {o t} h => by
      cases o with
      | none =>
        cases h
        exact poNone
      | some l =>
        obtain ⟨d, h1, rfl⟩ := map_some h
        exact poSome (cP_ok C hE h1).1
    split at h
    · rename_i h1 h2 h3
      cases h
      exact ⟨pSl (cP_ok C hE h1).1 (po h2) (po h3), rfl⟩
    · cases h
  · split at h
    · rename_i h1 h2
      split at h
      · rename_i hp
        cases h
        exact ⟨pIxM C.hu (cP_ok C hE h1).1 (cP_ok C hE h2).1 (plainIx_of hp), rfl⟩
      · cases h
    · cases h
  · exact ⟨xComp_ok C hE hr h, rfl⟩
  · exact ⟨xCall_ok C hE h, rfl⟩
  · cases h
    exact ⟨pDct0, rfl⟩
  · split at h
    · rename_i hl
      rw [Bool.and_eq_true] at hl
      split at h
      · rename_i h1 h2
        cases h
        exact ⟨pIndex C.hu (cP_ok C hE h1).1 (cP_ok C hE h2).1 (cP_ok C hE h2).2 (attrBase_of hl.2) hl.1, rfl⟩
      · cases h
    · cases h
  · split at h
    · rename_i hl
      rw [Bool.and_eq_true] at hl
      split at h
      · rename_i h1 h2 h3
        cases h
        exact ⟨pGet2 C.hu (cP_ok C hE h1).1 (cP_ok C hE h2).1 (cF_ok C hE h3).1 (cP_ok C hE h2).2 (cF_ok C hE h3).2 (attrBase_of hl.2) hl.1, rfl⟩
      · cases h
    · cases h
  · cases h
theorem cAnds_ok {T : CT} (hT : ST X T) {pos : Pos} : ∀ {es : List Expr} {r : RB}, cAnds T es = some r → PW X (.BoolOp .And es pos) (tT X.K r.1)
  | [], _, h => by cases h
  | [a], r, h => pw_and1 (hT _ _ h)
  | a :: b :: l, r, h => by
    unfold cAnds at h
    split at h
    · rename_i h1 h2
      cases h
      exact pwAnd (hT _ _ h1) (cAnds_ok hT h2)
    · cases h
theorem cOrs_ok {T : CT} (hT : ST X T) {pos : Pos} : ∀ {es : List Expr} {r : RB}, cOrs T es = some r → PW X (.BoolOp .Or es pos) (tT X.K r.1)
  | [], _, h => by cases h
  | [a], r, h => pw_or1 (hT _ _ h)
  | a :: b :: l, r, h => by
    unfold cOrs at h
    split at h
    · rename_i h1 h2
      cases h
      exact pwOr (hT _ _ h1) (cOrs_ok hT h2)
    · cases h
theorem tStep_ok (C : Ctx X c sc fnS) (hr : RecOk c rec) : ST X (tStep c sc fnS rec) := by
  obtain ⟨hE, hT⟩ := hr X sc fnS C
  intro e r h
  unfold tStep at h
  dsimp only at h
  split at h
  · exact (cAnds_ok hT h).pt
  · exact (cOrs_ok hT h).pt
  · obtain ⟨d, h1, rfl⟩ := map_some h
    exact ptNot (hT _ _ h1)
  · split at h
    · rename_i h1 h2
      split at h
      · cases h
      · rename_i hm
        cases h
        obtain ⟨q, a1, a2⟩ := cOp_ok C.hu _
        exact ptCmp a1 a2 (cP_ok C hE h1).1 (cP_ok C hE h2).1 (by simpa using hm)
    · cases h
  · split at h
    · rename_i h1 h2 h3
      split at h
      · cases h
      · rename_i hm
        cases h
        obtain ⟨q, a1, a2⟩ := cOp_ok C.hu _
        obtain ⟨q', b1, b2⟩ := cOp_ok C.hu _
        exact ptChain a1 b1 a2 b2 (cP_ok C hE h1).1 (cP_ok C hE h2).1 (cP_ok C hE h3).1 (by simpa using hm)
    · cases h
  · split at h
    · rename_i hv
      obtain ⟨d, h1, rfl⟩ := map_some h
      exact ptVal (cP_ok C hE h1).1 (tv_of hv)
    · cases h
theorem cET_ok (c : Cn) : ∀ n, RecOk c (cET c n)
  | 0 => fun X sc fnS _ => ⟨fun e r h => (by cases h), fun e r h => (by cases h)⟩
  | n + 1 => fun X sc fnS C => ⟨eStep_ok C (cET_ok c n), tStep_ok C (cET_ok c n)⟩
end
end R

set_option Elab.async false
set_option linter.all false
set_option maxRecDepth 100000
set_option maxHeartbeats 2000000
/-! R12: statements compiled -/
namespace R
open PySem PySem.Spec PyProof.Rows L2

def noCompB : Expr → Bool
  | .ListComp .. => false
  | .SetComp .. => false
  | .DictComp .. => false
  | _ => true
theorem sw_none {e : Expr} (h : noCompB e = true) {t : Option Expr} {l : Nat} {env : PySem.Env} : swapsWith e t l env = pure false := by
  cases e <;> first | rfl | cases h
theorem sw_tup {e : Expr} {ts : List Expr} {k : Nat} {p : Pos} {l : Nat} {env : PySem.Env} : swapsWith e (some (.Tuple ts k p)) l env = pure false := by
  cases e <;> rfl
theorem sws_tup {e : Expr} {ts : List Expr} {k : Nat} {p : Pos} {l : Nat} {env : PySem.Env} : swapsWithSole [.Tuple ts k p] e l env = pure false := by
  show swapsWith e (some (.Tuple ts k p)) l env = pure false
  exact sw_tup
def isStar : Expr → Bool
  | .Starred .. => true
  | _ => false
/-- the names of a, b = c, d that are stored one by one; none: not covered -/
def swN (sc : Scope) (ts vs : List Expr) : Option (Option (List Str)) :=
  if (!(ts.length == 2 || ts.length == 3) || vs.length != ts.length) = true then some none
  else if (vs.any fun | .Starred .. => true | _ => false) = true then some none
  else
    let line := (ts.head?.map (·.pos.line)).getD 0
    let names := ts.filterMap fun
      | .Name id pos => if (sc.names.lookup id == some .local && pos.line == line) = true then some id else none
      | _ => none
    if (names.length != ts.length || names.eraseDups.length != names.length) = true then some none
    else if vs.all (foldedForSure 8) = true then some none
    else if vs.all (constantsAlone 8) = true then none
    else some (some names)
theorem swN_ok {env : PySem.Env} {ts vs : List Expr} {k k2 : Nat} {p p2 : Pos} {r : Option (List Str)} (hk : env.scope.kind = .function) (h : swN env.scope ts vs = some r) : swappedStores [.Tuple ts k p] (.Tuple vs k2 p2) env = pure r := by
  have hb : env.blockKind = .function := by unfold Env.blockKind; rw [hk]; rfl
  have hkd : ∀ x, env.kindOf x = env.scope.names.lookup x := fun _ => rfl
  unfold swN at h
  unfold swappedStores
  have e1 : (env.blockKind != ScopeKind.function) = false := by rw [hb]; rfl
  simp only [e1, Bool.or_false, hkd]
  split at h
  · rename_i c
    cases h
    simp only [c]
    rfl
  rename_i c1
  rw [Bool.not_eq_true] at c1
  simp only [c1]
  split at h
  · rename_i c
    cases h
    erw [if_pos c]
  rename_i c2
  erw [if_neg c2]
  dsimp only at h
  split at h
  · rename_i c
    cases h
    erw [if_pos c]
  rename_i c3
  erw [if_neg c3]
  split at h
  · rename_i c
    cases h
    simp only [c]
    rfl
  rename_i c4
  rw [Bool.not_eq_true] at c4
  simp only [c4]
  split at h
  · cases h
  rename_i c5
  rw [Bool.not_eq_true] at c5
  simp only [c5]
  cases h
  rfl
def swO (sc : Scope) (ts : List Expr) : Expr → Option (Option (List Str))
  | .Tuple vs _ _ => swN sc ts vs
  | _ => some none
theorem swO_ok {env : PySem.Env} {ts : List Expr} {e : Expr} {k : Nat} {p : Pos} {r : Option (List Str)} (hk : env.scope.kind = .function) (h : swO env.scope ts e = some r) : swappedStores [.Tuple ts k p] e env = pure r := by
  unfold swO at h
  split at h
  · exact swN_ok hk h
  · rename_i hne
    cases h
    cases e <;> first | rfl | exact (hne _ _ _ rfl).elim

theorem sws_sub {a b e : Expr} {p : Pos} {l : Nat} {env : PySem.Env} : swapsWithSole [.Subscript a b p] e l env = pure false := by
  show swapsWith e (some (.Subscript a b p)) l env = pure false
  cases e <;> rfl
theorem asg_sub {o i : Expr} {pos : Pos} {env : PySem.Env} (h : plainIxB i = true) : ∀ v, assign (.Subscript o i pos) env v = (do
      let ov ← holding [v] (eval o env)
      let iv ← holding [v, ov] (eval i env)
      standAt pos
      holding [v, ov, iv] (setItem ov iv v)
      release [v, ov, iv] []) := by
  cases i <;> first | (intro _; rfl) | cases h
theorem swO_sub {a b e : Expr} {p : Pos} {env : PySem.Env} : swappedStores [.Subscript a b p] e env = pure none := by
  cases e <;> rfl
def fzE (c : Cn) (i : Nat) (f : EE) : EE := if c.mu.contains i then f else eOld (eFz f)
theorem tE_fzE {K : PySem.W.Frag} {c : Cn} {i : Nat} {f : EE} {σ : L2.St} {H : Hp} {Q : VK} (h : tE K (fzE c i f) σ H Q) : tE K f σ H Q := by
  unfold fzE at h
  split at h
  · exact h
  · exact tF_of_tE (tE_of_tF h)
def tgB (sc : Scope) (fnS : Str → Bool) (x : Str) : Bool := locB sc x || (celB sc x && fnS x)

/-! ### augmented -/
def sAugI (i : Nat) (f : EP) : ES := fun env M => match env[i]? with
  | some (.fz (.int a)) => match f env M with
    | some (.int b, M1) => some (.nx, env.set i (.fz (.int (a + b))), M1)
    | _ => none
  | _ => none
theorem tAug_of {K : PySem.W.Frag} {i : Nat} {f : EP} {Dd : Ends} {σ : L2.St} {H : Hp} (h : tS K (sAugI i f) Dd σ H) : tAug i (tP K f) (ipI fun i j => i + j) Dd σ H := by
  obtain ⟨W, env, M, fl, env', M', w, re, e, q⟩ := h
  unfold sAugI at e
  split at e
  · rename_i a ha
    split at e
    · rename_i b M1 hf
      cases e
      have y := re.at_ i _ ha
      cases hx : σ[i]? with
      | none =>
        rw [hx] at y
        cases y
      | some x =>
        rw [hx] at y
        cases y with
        | fz r =>
          cases r
          refine ⟨_, hx, W, env, M, .int b, _, w, re, hf, fun v H1 W1 e1 w1 r1 => ?_⟩
          cases r1.int
          refine ⟨_, _, rfl, rfl, ?_⟩
          exact q _ _ W1 e1.s w1 ((re.evo e1).setFz (List.getElem?_eq_some_iff.mp ha).1 (.int _))
    · cases e
  · cases e

/-! ### the step -/
section
variable (c : Cn) (sc : Scope) (fnS : Str → Bool) (rec : Rec)
/-- x = e -/
def sAsgN (x : Str) (px : Pos) (e : Expr) (pos : Pos) : Option ES := match findIx x c.N with
  | none => none
  | some i => if tgB sc fnS x then match e with
    | .ListComp elt [⟨tg, iter, ifs, 0⟩] scope p => match xComp c sc rec (rec sc fnS).1 elt tg iter ifs scope with
      | some r => if locB sc x && px.line == p.line && !(scope.names.any fun (n, k) => n == x && (k == .local || k == .cell)) then some (sPre r.2 (sSet i (fzE c i r.1)))
        else if !(sc.names.lookup x == some .local && px.line == p.line) then some (sPre r.2 (sSet i (fzE c i r.1))) else none
      | none => none
    | .Call (.Attribute (.Name y p2) "pop" apos) [] [] cpos => match slotOf c sc y with
      | some j => if apos.endLine == cpos.line then some (sPop i j) else none
      | none => none
    | e => if noCompB e then (match (rec sc fnS).1 e with
      | some r => some (sPre r.2 (sSet i (fzE c i r.1)))
      | none => none) else none
    else none
/-- a, b = e -/
def sAsgT (ts : List Expr) (k : Nat) (pt : Pos) (e : Expr) (pos : Pos) : Option ES := match swO sc ts e with
  | none => none
  | some none => match cF c sc (rec sc fnS).1 e, cG c sc fnS 4 (.Tuple ts k pt) with
    | some r, some t => some (sPre r.2 (sTup t r.1))
    | _, _ => none
  | some (some ns) => match ts, e with
    | [.Name x _, .Name y _], .Tuple [a, b] _ _ => match findIx x c.N, findIx y c.N, (rec sc fnS).1 a, (rec sc fnS).1 b with
      | some i, some j, some r, some t => if locB sc x && locB sc y && decide (ns = [x, y]) && decide (i ≠ j) then some (sPre (r.2 ++ t.2) (sPar i j (fzE c i r.1) (fzE c j t.1))) else none
      | _, _, _, _ => none
    | [.Name x _, .Name y _, .Name z _], .Tuple [a, b, d] _ _ => match findIx x c.N, findIx y c.N, findIx z c.N, (rec sc fnS).1 a, (rec sc fnS).1 b, (rec sc fnS).1 d with
      | some i, some j, some l, some r, some t, some u => if locB sc x && locB sc y && locB sc z && decide (ns = [x, y, z]) && decide (i ≠ j ∧ i ≠ l ∧ j ≠ l) then some (sPre (r.2 ++ (t.2 ++ u.2)) (sPar3 i j l (fzE c i r.1) (fzE c j t.1) (fzE c l u.1))) else none
      | _, _, _, _, _, _ => none
    | _, _ => none
def cBlk (S : Stmt → Option ES) : List Stmt → Option ES
  | [] => some sNx
  | [s] => S s
  | s :: t :: r => match S s, cBlk S (t :: r) with
    | some f, some g => some (sSeq f g)
    | _, _ => none
def sStep (S : Stmt → Option ES) (st : Stmt) : Option ES :=
  let E := (rec sc fnS).1
  let T := (rec sc fnS).2
  match st with
  | .Pass _ => some sNx
  | .Continue _ => some sCt
  | .Break _ => some sBk
  | .Raise _ _ _ => some sNone
  | .Return none _ => some sRetN
  | .Return (some (.Name x p)) _ => match slotOf c sc x with
    | some i => some (sRetV i)
    | none => match E (.Name x p) with
      | some r => some (sPre r.2 (sRet r.1))
      | none => none
  | .Return (some e) _ => match E e with
    | some r => some (sPre r.2 (sRet r.1))
    | none => none
  | .Expr (.Call (.Attribute (.Name x _) "append" apos) [e] [] cpos) _ => match slotOf c sc x, cF c sc E e with
    | some i, some r => if apos.endLine == cpos.line then some (sPre r.2 (sApp i r.1)) else none
    | _, _ => none
  | .Expr (.Call (.Attribute (.Name x _) "extend" apos) [e] [] cpos) _ => match slotOf c sc x, cF c sc E e with
    | some i, some r => if apos.endLine == cpos.line then some (sPre r.2 (sExt i r.1)) else none
    | _, _ => none
  | .Expr e _ => if noCompB e then (match E e with
    | some r => some (sPre r.2 (sEx r.1))
    | none => none) else none
  | .Assign [.Subscript (.Name x p2) i p3] e pos => match slotOf c sc x, cP c sc E i, cF c sc E e with
    | some j, some r, some t => if plainIxB i then some (sPre (r.2 ++ t.2) (sSub j r.1 t.1)) else none
    | _, _, _ => none
  | .Assign [.Name x px] e pos => sAsgN c sc fnS rec x px e pos
  | .Assign [.Tuple ts k pt] e pos => sAsgT c sc fnS rec ts k pt e pos
  | .AugAssign (.Name x _) .Add e _ => match findIx x c.N, cP c sc E e with
    | some i, some r => if tgB sc fnS x then some (sPre r.2 (sAugI i r.1)) else none
    | _, _ => none
  | .If q a b _ => match T q, cBlk S a, cBlk S b with
    | some g, some f, some h => some (sPre g.2 (sIf g.1 f h))
    | _, _, _ => none
  | .For tg iter body [] _ => match cIF c sc E tg iter, cG c sc fnS 4 tg, cBlk S body with
    | some it, some t, some f => if noSet iter then some (sPre it.2 (sFor it.1 t f)) else none
    | _, _, _ => none
  | .While q body [] _ => match T q, cBlk S body with
    | some g, some f => if g.2.isEmpty then some (sWh g.1 f) else none
    | _, _ => none
  | _ => none
def cS : Nat → Stmt → Option ES
  | 0 => fun _ => none
  | n + 1 => sStep c sc fnS rec (cS n)
end
def SS (X : Cx) (S : Stmt → Option ES) : Prop := ∀ st f, S st = some f → PS X st (tS X.K f)
section
variable {X : Cx} {c : Cn} {sc : Scope} {fnS : Str → Bool} {rec : Rec}
theorem pPre {st : Stmt} {is : List Nat} {f : ES} (h : PS X st (tS X.K f)) : PS X st (tS X.K (sPre is f)) := PS.imp h fun _ _ _ => tS_pre
theorem pPre' {st : Stmt} {t : TS} {is : List Nat} {f : ES} (h : PS X st t) (i : ∀ Dd σ H, tS X.K f Dd σ H → t Dd σ H) : PS X st (tS X.K (sPre is f)) := PS.imp h fun _ _ _ q => i _ _ _ (tS_pre q)
theorem sAsgN_ok (C : Ctx X c sc fnS) (hr : RecOk c rec) {x : Str} {px : Pos} {e : Expr} {pos : Pos} {f : ES} (h : sAsgN c sc fnS rec x px e pos = some f) : PS X (.Assign [.Name x px] e pos) (tS X.K f) := by
  obtain ⟨hE, hT⟩ := hr X sc fnS C
  unfold sAsgN at h
  split at h
  · cases h
  rename_i i hi
  have hN : X.N[i]? = some x := by rw [C.n]; exact findIx_some hi
  split at h
  · rename_i ht
    obtain ⟨hloc, hfn⟩ := locs_of C ht
    split at h
    · rename_i elt tg iter ifs scope p
      split at h
      · rename_i r hx
        obtain ⟨it, t, cond, g, e1, a1, a2, a3, a4, a5, a6, a7⟩ := xComp_parts C hE hr hx
        split at h
        · rename_i hc
          cases h
          simp only [Bool.and_eq_true, Bool.not_eq_true'] at hc
          obtain ⟨⟨hl, hline⟩, hn⟩ := hc
          have hyl : X.env.scope.names.lookup x = some .local := by
            rw [C.scope]
            unfold locB at hl
            split at hl
            · assumption
            · cases hl
          refine pPre' (ps_setLc C.calm C.nd hN hyl (sw_true (by rw [C.scope]; exact C.kind) hyl hline hn) a1 a2 a3 a4 a5 a6) fun Dd σ H q => tAsg_of (fun σ H Q q => ?_) q
          have q := tE_fzE q
          rw [e1] at q
          exact tLc_of a7 q
        · split at h
          · rename_i hc
            cases h
            refine pPre' (ps_set C.nd hN hloc (xComp_ok C hE hr hx) ?_ hfn) fun Dd σ H q => tAsg_of (fun σ H Q q => tE_fzE q) q
            have hb : X.env.blockKind = .function := by unfold Env.blockKind; rw [C.scope, C.kind]; rfl
            rw [Bool.not_eq_true', ← C.scope] at hc
            have hc' : (X.env.kindOf x == some .local && px.line == p.line) = false := hc
            unfold swapsWith
            simp only [hb, Expr.pos, Bool.and_assoc, beq_self_eq_true, Bool.true_and]
            simp only [← Bool.and_assoc, hc', Bool.false_and]
          · cases h
      · cases h
    · split at h
      · rename_i j hj
        split at h
        · rename_i hline
          cases h
          obtain ⟨b1, b2, b3, b4⟩ := slotOf_some C hj
          exact sPopS C.nd hN hloc hfn b1 b2 b3 b4 hline
        · cases h
      · cases h
    · split at h
      · rename_i hnc
        split at h
        · rename_i r hx
          cases h
          exact pPre' (ps_set C.nd hN hloc (hE _ _ hx).1 (sw_none hnc) hfn) fun Dd σ H q => tAsg_of (fun σ H Q q => tE_fzE q) q
        · cases h
      · cases h
  · cases h
theorem sAsgT_ok (C : Ctx X c sc fnS) (hr : RecOk c rec) {ts : List Expr} {k : Nat} {pt : Pos} {e : Expr} {pos : Pos} {f : ES} (h : sAsgT c sc fnS rec ts k pt e pos = some f) : PS X (.Assign [.Tuple ts k pt] e pos) (tS X.K f) := by
  obtain ⟨hE, hT⟩ := hr X sc fnS C
  have hk : X.env.scope.kind = .function := by rw [C.scope]; exact C.kind
  unfold sAsgT at h
  split at h
  · cases h
  · rename_i hs
    split at h
    · rename_i r t h1 h2
      cases h
      have hw := swO_ok (env := X.env) (k := k) (p := pt) hk (by rw [C.scope]; exact hs)
      exact pPre' (ps_asg (cF_ok C hE h1).1 (cG_ok C 4 h2) sws_tup hw) fun Dd σ H q => tAsg_tup q
    · cases h
  · rename_i ns hs
    split at h
    · rename_i x px y py a b k2 p2
      split at h
      · rename_i i j r t hi hj h1 h2
        split at h
        · rename_i hc
          cases h
          simp only [Bool.and_eq_true, decide_eq_true_eq] at hc
          obtain ⟨⟨⟨hx, hy⟩, hns⟩, hij⟩ := hc
          have lk : ∀ z, locB sc z = true → X.env.scope.names.lookup z = some .local := fun z hz => by
            rw [C.scope]
            unfold locB at hz
            split at hz
            · assumption
            · cases hz
          have hw := swO_ok (env := X.env) (k := k) (p := pt) hk (by rw [C.scope]; exact hs)
          rw [hns] at hw
          refine pPre' (ps_par C.calm C.nd (by rw [C.n]; exact findIx_some hi) (by rw [C.n]; exact findIx_some hj) hij (lk _ hx) (lk _ hy) (pa_cons (hE _ _ h1).1 (pa_cons (hE _ _ h2).1 pa_nil (star_cons (hE _ _ h2).2)) (star_cons (hE _ _ h1).2)) hw sws_tup) fun Dd σ H q => tPar_of (fun σ H Q q => tE_fzE q) (fun σ H Q q => tE_fzE q) q
        · cases h
      · cases h
    · rename_i x px y py z pz a b d k2 p2
      split at h
      · rename_i i j l r t u hi hj hl h1 h2 h3
        split at h
        · rename_i hc
          cases h
          simp only [Bool.and_eq_true, decide_eq_true_eq] at hc
          obtain ⟨⟨⟨⟨hx, hy⟩, hz⟩, hns⟩, hij, hil, hjl⟩ := hc
          have lk : ∀ z, locB sc z = true → X.env.scope.names.lookup z = some .local := fun z hz => by
            rw [C.scope]
            unfold locB at hz
            split at hz
            · assumption
            · cases hz
          have hw := swO_ok (env := X.env) (k := k) (p := pt) hk (by rw [C.scope]; exact hs)
          rw [hns] at hw
          refine pPre' (ps_par3 C.calm C.nd (by rw [C.n]; exact findIx_some hi) (by rw [C.n]; exact findIx_some hj) (by rw [C.n]; exact findIx_some hl) hij hil hjl (lk _ hx) (lk _ hy) (lk _ hz) (pa_cons (hE _ _ h1).1 (pa_cons (hE _ _ h2).1 (pa_cons (hE _ _ h3).1 pa_nil (star_cons (hE _ _ h3).2)) (star_cons (hE _ _ h2).2)) (star_cons (hE _ _ h1).2)) hw sws_tup) fun Dd σ H q => tPar3_of (fun σ H Q q => tE_fzE q) (fun σ H Q q => tE_fzE q) (fun σ H Q q => tE_fzE q) q
        · cases h
      · cases h
    · cases h
theorem cBlk_ok {S : Stmt → Option ES} (hS : SS X S) : ∀ {ss : List Stmt} {f : ES}, cBlk S ss = some f → PSs X ss (tS X.K f)
  | [], f, h => by
    cases h
    exact ssNil
  | [s], f, h => ssOne (hS _ _ h)
  | s :: t :: r, f, h => by
    unfold cBlk at h
    split at h
    · rename_i f g h1 h2
      cases h
      exact ssCons (hS _ _ h1) (cBlk_ok hS h2)
    · cases h
theorem sStep_ok (C : Ctx X c sc fnS) (hr : RecOk c rec) {S : Stmt → Option ES} (hS : SS X S) : SS X (sStep c sc fnS rec S) := by
  obtain ⟨hE, hT⟩ := hr X sc fnS C
  have never : PassesOwn (model X.prog X.w) X.A X.env X.xe := by
    rw [C.xe]
    exact PassesOwn.never
  intro st f h
  unfold sStep at h
  dsimp only at h
  split at h
  · cases h
    exact sPass
  · cases h
    exact sCont
  · cases h
    exact sBreak
  · cases h
    exact sNever
  · cases h
    exact sReturnN
  · split at h
    · rename_i i hi
      cases h
      obtain ⟨b1, b2, b3, b4⟩ := slotOf_some C hi
      exact sReturnV b1 b2 b3 b4
    · split at h
      · rename_i r hx
        cases h
        exact pPre (sReturn (hE _ _ hx).1)
      · cases h
  · split at h
    · rename_i r hx
      cases h
      exact pPre (sReturn (hE _ _ hx).1)
    · cases h
  · split at h
    · rename_i i r hi hx
      split at h
      · rename_i hl
        cases h
        obtain ⟨b1, b2, b3, b4⟩ := slotOf_some C hi
        obtain ⟨q1, q2⟩ := cF_ok C hE hx
        exact pPre (sAppend b1 b2 b3 b4 q1 q2 hl)
      · cases h
    · cases h
  · split at h
    · rename_i i r hi hx
      split at h
      · rename_i hl
        cases h
        obtain ⟨b1, b2, b3, b4⟩ := slotOf_some C hi
        obtain ⟨q1, q2⟩ := cF_ok C hE hx
        exact pPre (sExtend b1 b2 b3 b4 q1 q2 hl)
      · cases h
    · cases h
  · split at h
    · rename_i hn
      split at h
      · rename_i r hx
        cases h
        exact pPre (sExpr (hE _ _ hx).1 (sw_none hn))
      · cases h
    · cases h
  · split at h
    · rename_i j r t hj h1 h2
      split at h
      · rename_i hn
        cases h
        obtain ⟨b1, b2, b3, b4⟩ := slotOf_some C hj
        exact pPre' (ps_asg (cF_ok C hE h2).1 (pg_sub (pe_var b1 b2 b3 b4) (cP_ok C hE h1).1 (set_X C.hu) (asg_sub hn)) sws_sub swO_sub) fun Dd σ H q => tAsg_sub q
      · cases h
    · cases h
  · exact sAsgN_ok C hr h
  · exact sAsgT_ok C hr h
  · split at h
    · rename_i i r hi hx
      split at h
      · rename_i ht
        cases h
        obtain ⟨hloc, hfn⟩ := locs_of C ht
        exact pPre' (ps_aug C.nd (by rw [C.n]; exact findIx_some hi) hloc (cP_ok C hE hx).1 ip_add hfn) fun Dd σ H q => tAug_of q
      · cases h
    · cases h
  · split at h
    · rename_i g f1 f2 hq h1 h2
      cases h
      exact pPre (sIfS (hT _ _ hq) (cBlk_ok hS h1) (cBlk_ok hS h2))
    · cases h
  · split at h
    · rename_i it t g h1 h2 h3
      split at h
      · rename_i hn
        cases h
        exact pPre' (ps_for never C.calm (cIF_ok C hE h1) (cG_ok C 4 h2) (cBlk_ok hS h3) (noSet_of hn)) fun Dd σ H q => tFor_of q
      · cases h
    · cases h
  · split at h
    · rename_i g f1 hq h1
      split at h
      · cases h
        exact PS.imp (ps_while never (hT _ _ hq) (cBlk_ok hS h1)) fun Dd σ H q => tWhile_of q
      · cases h
    · cases h
  · cases h
theorem cS_ok (C : Ctx X c sc fnS) (hr : RecOk c rec) : ∀ n, SS X (cS c sc fnS rec n)
  | 0 => fun _ _ h => (by cases h)
  | n + 1 => sStep_ok C hr (cS_ok C hr n)
end
end R

set_option Elab.async false
set_option linter.all false
set_option maxRecDepth 100000
set_option maxHeartbeats 2000000
/-! R20: defs compiled -/
namespace R
open PySem PySem.Spec PySem.Calls PyProof.Rows L2
def cDef (N : List Str) (fns : List (Str × Entry)) (cst : List (Str × D)) (mu : List Nat) (st : Stmt) : Option ES :=
  cBlk (cS ⟨N, fns, cst, mu⟩ (defScope st) (fun _ => true) (cET ⟨N, fns, cst, mu⟩ 40) 20) (defBody st)
/-- what a module has, for bodies at a level -/
structure Mods (P : Program) (w : World) (K : PySem.W.Frag) (mg : Str → Option Value) (base : Heap) (cst : List (Str × D)) (fns : List (Str × Entry)) (k : Nat) : Prop where
  blt : ∀ x ∈ bNames, mg x = none
  cst : ∀ x d, cst.lookup x = some d → ∃ v u, mg x = some u ∧ RelV v u ∧ ∀ W : Wd, RepW K W v d
  fns : ∀ x e, fns.lookup x = some e → ∃ (f : Addr) (fd : FuncData) (ps : List Str), FnOk P w K mg base CX0 k f fd ps (spF K ps.length e.F) ∧ mg x = some (.ref f) ∧ PySem.W.keepIn K (.ref f) = true ∧ Binds K fd ps [] ∧ ps.length = e.ar
section
variable {P : Program} {w : World} {K : PySem.W.Frag} {mg : Str → Option Value} {base : Heap} {cst : List (Str × D)} {fns : List (Str × Entry)} {k : Nat}
theorem def_ok {x qual : Str} {st : Stmt} {f : Addr} {fd : FuncData} {N ps : List Str} {mu : List Nat} {body : ES} (F : L2.Fun K x qual st f fd) (S : FnScope N ps (defScope st)) (T : Mods P w K mg base cst fns k) (hb : cDef N fns cst mu st = some body) :
    FnOk P w K mg base CX0 (k + 1) f fd ps (spF K ps.length (mkFn N.length body)) := by
  refine ok_def F S fun cdv A outer s H E hr => ?_
  have C : Ctx (cxOf CX0 P w K mg base N qual (defScope st) f cdv A outer s H E).nox ⟨N, fns, cst, mu⟩ (defScope st) (fun _ => true) :=
    { calm := rfl, nd := S.nd, n := rfl, scope := rfl, kind := S.kind, fn := fun _ _ => rfl, xe := rfl
      hu := by have := hr.un; show (A.deeper _).units + 70 < cLine; omega
      blt := T.blt, cst := T.cst
      fns := fun x e h => by
        obtain ⟨f, fd, ps, a1, a2, a3, a4, a5⟩ := T.fns x e h
        exact ⟨k, f, fd, ps, a1, hr, a2, a3, a4, a5⟩ }
  exact cBlk_ok (cS_ok C (cET_ok _ 40) 20) hb
theorem spF_imp {n : Nat} {F G : Fn} (h : ∀ ds M r, G ds M = some r → F ds M = some r) {vs : List V} {H : Hp} {Q : VK} {E : XK} (q : spF K n G vs H Q E) : spF K n F vs H Q E := by
  obtain ⟨hl, W, M, ds, r, M', w, rs, e, z⟩ := q
  exact ⟨hl, W, M, ds, r, M', w, rs, h _ _ _ e, z⟩
/-- a def, told by what it computes -/
theorem def_as {x qual : Str} {st : Stmt} {f : Addr} {fd : FuncData} {N ps : List Str} {mu : List Nat} {body : ES} {G : Fn} (F : L2.Fun K x qual st f fd) (S : FnScope N ps (defScope st)) (T : Mods P w K mg base cst fns k) (hb : cDef N fns cst mu st = some body)
    (h : ∀ ds M r, G ds M = some r → mkFn N.length body ds M = some r) : FnOk P w K mg base CX0 (k + 1) f fd ps (spF K ps.length G) :=
  (def_ok F S T hb).imp fun _ _ _ _ q => spF_imp h q
theorem Mods.mono {j : Nat} (T : Mods P w K mg base cst fns k) (h : k ≤ j) : Mods P w K mg base cst fns j := ⟨T.blt, T.cst, fun x e q => by
  obtain ⟨f, fd, ps, a1, a2⟩ := T.fns x e q
  exact ⟨f, fd, ps, a1.mono h, a2⟩⟩
theorem Mods.nil (b : ∀ x ∈ bNames, mg x = none) : Mods P w K mg base [] [] k := ⟨b, fun x d h => (by cases h), fun x d h => (by cases h)⟩
end
end R

set_option Elab.async false
set_option linter.all false
set_option maxRecDepth 100000
set_option maxHeartbeats 2000000
/-! R21: how compiled bodies run -/
namespace R
open PySem PySem.Spec L2
/-! one behind the other -/
def bO {α β : Type} (o : Option α) (k : α → Option β) : Option β := match o with
  | some a => k a
  | none => none
@[simp] theorem bO_some {α β : Type} {a : α} {k : α → Option β} : bO (some a) k = k a := id rfl
@[simp] theorem bO_none {α β : Type} {k : α → Option β} : bO none k = none := id rfl
@[simp] theorem bO_ite {α β : Type} {p : Prop} [Decidable p] {a b : Option α} {k : α → Option β} : bO (if p then a else b) k = if p then bO a k else bO b k := by
  by_cases h : p <;> simp [h]
/-- what a statement leaves, and what goes on -/
def bS (o : Option (Fl × Env × List MO)) (k : Env → List MO → Option (Fl × Env × List MO)) : Option (Fl × Env × List MO) := match o with
  | some (.nx, e, M) => k e M
  | r => r
section
variable {k : Env → List MO → Option (Fl × Env × List MO)} {e : Env} {M : List MO} {r : D × Bool}
@[simp] theorem bS_nx : bS (some (.nx, e, M)) k = k e M := id rfl
@[simp] theorem bS_rt : bS (some (.rt r, e, M)) k = some (.rt r, e, M) := id rfl
@[simp] theorem bS_ct : bS (some (.ct, e, M)) k = some (.ct, e, M) := id rfl
@[simp] theorem bS_bk : bS (some (.bk, e, M)) k = some (.bk, e, M) := id rfl
@[simp] theorem bS_none : bS none k = none := id rfl
@[simp] theorem bS_ite {p : Prop} [Decidable p] {a b : Option (Fl × Env × List MO)} : bS (if p then a else b) k = if p then bS a k else bS b k := by
  by_cases h : p <;> simp [h]
end
/-- how a def ends -/
def fin (o : Option (Fl × Env × List MO)) : Option ((D × Bool) × List MO) := match o with
  | some (.rt r, _, M') => some (r, M')
  | some (.nx, _, M') => some ((.non, false), M')
  | _ => none
section
variable {e : Env} {M : List MO} {r : D × Bool}
@[simp] theorem fin_rt : fin (some (.rt r, e, M)) = some (r, M) := id rfl
@[simp] theorem fin_nx : fin (some (.nx, e, M)) = some ((.non, false), M) := id rfl
@[simp] theorem fin_ite {p : Prop} [Decidable p] {a b : Option (Fl × Env × List MO)} : fin (if p then a else b) = if p then fin a else fin b := by
  by_cases h : p <;> simp [h]
@[simp] theorem fin_none : fin none = none := id rfl
theorem v_mkFn {N : Nat} {body : ES} {ds : List D} : mkFn N body ds M = fin (body (ds.map .fz ++ List.replicate (N - ds.length) .no) M) := id rfl
end
/-! what goes on, by names -/
def asB (d : D) : Option Bool := match d with
  | .bl b => some b
  | _ => none
@[simp] theorem asB_bl {b : Bool} : asB (.bl b) = some b := id rfl
def asN (r : D × Bool) : Option Bool := match r with
  | (.bl b, false) => some b
  | _ => none
@[simp] theorem asN_bl {b : Bool} : asN (.bl b, false) = some b := id rfl
def asI (d : D) : Option Int := match d with
  | .int i => some i
  | _ => none
@[simp] theorem asI_int {i : Int} : asI (.int i) = some i := id rfl
def asX (d : D) : Option (List D) := match d with
  | .lst es => some es
  | .tup es => some es
  | _ => none
@[simp] theorem asX_lst {es : List D} : asX (.lst es) = some es := id rfl
@[simp] theorem asX_tup {es : List D} : asX (.tup es) = some es := id rfl
def asD (d : D) : Option (List Key × List D) := match d with
  | .dct ks ds => some (ks, ds)
  | _ => none
@[simp] theorem asD_dct {ks : List Key} {ds : List D} : asD (.dct ks ds) = some (ks, ds) := id rfl
/-- x[i], also of a living list -/
def ixM (x y : D) (M : List MO) : Option ((D × Bool) × List MO) := match x, y with
  | .obj n, .int i => match M[n]? with
    | some (.lst ds) => (atI ds i).map fun d => ((d, false), M)
    | _ => none
  | x, y => (dIx x y).map fun r => (r, M)
def kR (M : List MO) : D × Bool → Option ((D × Bool) × List MO)
  | r => some (r, M)
@[simp] theorem v_kR {M : List MO} {r : D × Bool} : kR M r = some (r, M) := id rfl
def kFz  : (D × Bool) × List MO → Option (D × List MO)
  | ((d, b), M) => some (d, M)
@[simp] theorem v_kFz  {d : D} {b : Bool} {M : List MO} : kFz  ((d, b), M) = some (d, M) := id rfl
def kOld  : D × List MO → Option ((D × Bool) × List MO)
  | (d, M) => some ((d, false), M)
@[simp] theorem v_kOld  {d : D} {M : List MO} : kOld  (d, M) = some ((d, false), M) := id rfl
def kOp2 (f : Op2) (x : D) : D × List MO → Option ((D × Bool) × List MO)
  | (y, M) => bO (f x y) (kR M)
@[simp] theorem v_kOp2 {f : Op2} {x : D} {y : D} {M : List MO} : kOp2 f x (y, M) = bO (f x y) (kR M) := id rfl
def kOp1 (f : Op2) (fb : EP) (env : Env) : D × List MO → Option ((D × Bool) × List MO)
  | (x, M) => bO (fb env M) (kOp2 f x)
@[simp] theorem v_kOp1 {f : Op2} {fb : EP} {env : Env} {x : D} {M : List MO} : kOp1 f fb env (x, M) = bO (fb env M) (kOp2 f x) := id rfl
def kUn (f : Op1) : D × List MO → Option ((D × Bool) × List MO)
  | (x, M) => bO (f x) (kR M)
@[simp] theorem v_kUn {f : Op1} {x : D} {M : List MO} : kUn f (x, M) = bO (f x) (kR M) := id rfl
def kCall (f : OpN) : List D × List MO → Option ((D × Bool) × List MO)
  | (x, M) => bO (f x) (kR M)
@[simp] theorem v_kCall {f : OpN} {x : List D} {M : List MO} : kCall f (x, M) = bO (f x) (kR M) := id rfl
def kCons2 (x : D) : List D × List MO → Option (List D × List MO)
  | (xs, M) => some (x :: xs, M)
@[simp] theorem v_kCons2 {x : D} {xs : List D} {M : List MO} : kCons2 x (xs, M) = some (x :: xs, M) := id rfl
def kCons1 (g : EL) (env : Env) : D × List MO → Option (List D × List MO)
  | (x, M) => bO (g env M) (kCons2 x)
@[simp] theorem v_kCons1 {g : EL} {env : Env} {x : D} {M : List MO} : kCons1 g env (x, M) = bO (g env M) (kCons2 x) := id rfl
def kFn (F : Fn) : List D × List MO → Option ((D × Bool) × List MO)
  | (x, M) => F x M
@[simp] theorem v_kFn {F : Fn} {x : List D} {M : List MO} : kFn F (x, M) = F x M := id rfl
def kTup  : List D × List MO → Option ((D × Bool) × List MO)
  | (x, M) => if x.length ≤ LIM then some ((.tup x, false), M) else none
@[simp] theorem v_kTup  {x : List D} {M : List MO} : kTup  (x, M) = if x.length ≤ LIM then some ((.tup x, false), M) else none := id rfl
def kLst  : List D × List MO → Option ((D × Bool) × List MO)
  | (x, M) => if x.length ≤ LIM then some ((.lst x, true), M) else none
@[simp] theorem v_kLst  {x : List D} {M : List MO} : kLst  (x, M) = if x.length ≤ LIM then some ((.lst x, true), M) else none := id rfl
def kB2 (M : List MO) : Bool → Option (Bool × List MO)
  | b => some (b, M)
@[simp] theorem v_kB2 {M : List MO} {b : Bool} : kB2 M b = some (b, M) := id rfl
def kB  : D × List MO → Option (Bool × List MO)
  | (x, M) => bO (asB x) (kB2 M)
@[simp] theorem v_kB  {x : D} {M : List MO} : kB  (x, M) = bO (asB x) (kB2 M) := id rfl
def kNot  : Bool × List MO → Option (Bool × List MO)
  | (b, M) => some (!b, M)
@[simp] theorem v_kNot  {b : Bool} {M : List MO} : kNot  (b, M) = some (!b, M) := id rfl
def kBv  : Bool × List MO → Option (D × List MO)
  | (b, M) => some (.bl b, M)
@[simp] theorem v_kBv  {b : Bool} {M : List MO} : kBv  (b, M) = some (.bl b, M) := id rfl
def kIf (f : EE) (g : EE) (env : Env) : Bool × List MO → Option ((D × Bool) × List MO)
  | (b, M) => if b = true then f env M else g env M
@[simp] theorem v_kIf {f : EE} {g : EE} {env : Env} {b : Bool} {M : List MO} : kIf f g env (b, M) = if b = true then f env M else g env M := id rfl
def kAnd (g : EB) (env : Env) : Bool × List MO → Option (Bool × List MO)
  | (b, M) => if b = true then g env M else some (false, M)
@[simp] theorem v_kAnd {g : EB} {env : Env} {b : Bool} {M : List MO} : kAnd g env (b, M) = if b = true then g env M else some (false, M) := id rfl
def kOr (g : EB) (env : Env) : Bool × List MO → Option (Bool × List MO)
  | (b, M) => if b = true then some (true, M) else g env M
@[simp] theorem v_kOr {g : EB} {env : Env} {b : Bool} {M : List MO} : kOr g env (b, M) = if b = true then some (true, M) else g env M := id rfl
def kvAnd (g : EE) (env : Env) : Bool × List MO → Option ((D × Bool) × List MO)
  | (b, M) => if b = true then g env M else some ((.bl false, false), M)
@[simp] theorem v_kvAnd {g : EE} {env : Env} {b : Bool} {M : List MO} : kvAnd g env (b, M) = if b = true then g env M else some ((.bl false, false), M) := id rfl
def kvOr (g : EE) (env : Env) : Bool × List MO → Option ((D × Bool) × List MO)
  | (b, M) => if b = true then some ((.bl true, false), M) else g env M
@[simp] theorem v_kvOr {g : EE} {env : Env} {b : Bool} {M : List MO} : kvOr g env (b, M) = if b = true then some ((.bl true, false), M) else g env M := id rfl
def kCh4 (g : Op2) (y : D) : D × List MO → Option ((D × Bool) × List MO)
  | (z, M) => bO (g y z) (kR M)
@[simp] theorem v_kCh4 {g : Op2} {y : D} {z : D} {M : List MO} : kCh4 g y (z, M) = bO (g y z) (kR M) := id rfl
def kCh3 (g : Op2) (fc : EP) (env : Env) (y : D) (M : List MO) : Bool → Option ((D × Bool) × List MO)
  | b => if b = true then bO (fc env M) (kCh4 g y) else some ((.bl false, false), M)
@[simp] theorem v_kCh3 {g : Op2} {fc : EP} {env : Env} {y : D} {M : List MO} {b : Bool} : kCh3 g fc env y M b = if b = true then bO (fc env M) (kCh4 g y) else some ((.bl false, false), M) := id rfl
def kCh2 (f : Op2) (g : Op2) (fc : EP) (env : Env) (x : D) : D × List MO → Option ((D × Bool) × List MO)
  | (y, M) => bO (bO (f x y) asN) (kCh3 g fc env y M)
@[simp] theorem v_kCh2 {f : Op2} {g : Op2} {fc : EP} {env : Env} {x : D} {y : D} {M : List MO} : kCh2 f g fc env x (y, M) = bO (bO (f x y) asN) (kCh3 g fc env y M) := id rfl
def kCh1 (f : Op2) (g : Op2) (fb : EP) (fc : EP) (env : Env) : D × List MO → Option ((D × Bool) × List MO)
  | (x, M) => bO (fb env M) (kCh2 f g fc env x)
@[simp] theorem v_kCh1 {f : Op2} {g : Op2} {fb : EP} {fc : EP} {env : Env} {x : D} {M : List MO} : kCh1 f g fb fc env (x, M) = bO (fb env M) (kCh2 f g fc env x) := id rfl
def kV  : D × List MO → Option (Bool × List MO)
  | (x, M) => bO x.truth (kB2 M)
@[simp] theorem v_kV  {x : D} {M : List MO} : kV  (x, M) = bO x.truth (kB2 M) := id rfl
def kI2 (M : List MO) : Int → Option (Option Int × List MO)
  | i => some (some i, M)
@[simp] theorem v_kI2 {M : List MO} {i : Int} : kI2 M i = some (some i, M) := id rfl
def kI  : D × List MO → Option (Option Int × List MO)
  | (x, M) => bO (asI x) (kI2 M)
@[simp] theorem v_kI  {x : D} {M : List MO} : kI  (x, M) = bO (asI x) (kI2 M) := id rfl
def kSl3 (x : D) (a : Option Int) : Option Int × List MO → Option ((D × Bool) × List MO)
  | (b, M) => bO (dSl a b x) (kR M)
@[simp] theorem v_kSl3 {x : D} {a : Option Int} {b : Option Int} {M : List MO} : kSl3 x a (b, M) = bO (dSl a b x) (kR M) := id rfl
def kSl2 (hi : EO) (env : Env) (x : D) : Option Int × List MO → Option ((D × Bool) × List MO)
  | (a, M) => bO (hi env M) (kSl3 x a)
@[simp] theorem v_kSl2 {hi : EO} {env : Env} {x : D} {a : Option Int} {M : List MO} : kSl2 hi env x (a, M) = bO (hi env M) (kSl3 x a) := id rfl
def kSl1 (lo : EO) (hi : EO) (env : Env) : D × List MO → Option ((D × Bool) × List MO)
  | (x, M) => bO (lo env M) (kSl2 hi env x)
@[simp] theorem v_kSl1 {lo : EO} {hi : EO} {env : Env} {x : D} {M : List MO} : kSl1 lo hi env (x, M) = bO (lo env M) (kSl2 hi env x) := id rfl
def kIx2 (x : D) : D × List MO → Option ((D × Bool) × List MO)
  | (y, M) => ixM x y M
@[simp] theorem v_kIx2 {x : D} {y : D} {M : List MO} : kIx2 x (y, M) = ixM x y M := id rfl
def kIx1 (fb : EP) (env : Env) : D × List MO → Option ((D × Bool) × List MO)
  | (x, M) => bO (fb env M) (kIx2 x)
@[simp] theorem v_kIx1 {fb : EP} {env : Env} {x : D} {M : List MO} : kIx1 fb env (x, M) = bO (fb env M) (kIx2 x) := id rfl
def kIt2 (M : List MO) : List D → Option (List D × List MO)
  | xs => some (xs, M)
@[simp] theorem v_kIt2 {M : List MO} {xs : List D} : kIt2 M xs = some (xs, M) := id rfl
def kWk  : D × List MO → Option (List D × List MO)
  | (x, M) => bO (walkD x) (kIt2 M)
@[simp] theorem v_kWk  {x : D} {M : List MO} : kWk  (x, M) = bO (walkD x) (kIt2 M) := id rfl
def kEn2 (M : List MO) : List D → Option (List D × List MO)
  | xs => some (enumD xs, M)
@[simp] theorem v_kEn2 {M : List MO} {xs : List D} : kEn2 M xs = some (enumD xs, M) := id rfl
def kEn  : D × List MO → Option (List D × List MO)
  | (x, M) => bO (seqItems x) (kEn2 M)
@[simp] theorem v_kEn  {x : D} {M : List MO} : kEn  (x, M) = bO (seqItems x) (kEn2 M) := id rfl
def kRL  : List D × List MO → Option ((D × Bool) × List MO)
  | (x, M) => if x.length ≤ 16777216 then some ((.lst x, true), M) else none
@[simp] theorem v_kRL  {x : List D} {M : List MO} : kRL  (x, M) = if x.length ≤ 16777216 then some ((.lst x, true), M) else none := id rfl
def kRT  : List D × List MO → Option ((D × Bool) × List MO)
  | (x, M) => if x.length ≤ 16777216 then some ((.tup x, false), M) else none
@[simp] theorem v_kRT  {x : List D} {M : List MO} : kRT  (x, M) = if x.length ≤ 16777216 then some ((.tup x, false), M) else none := id rfl
def kCp (vs : List Nat) (tg : Tg) (cond : EB) (elt : EP) (env : Env) : List D × List MO → Option ((D × Bool) × List MO)
  | (ds, M) => bO (compL (wipeE env vs) tg cond elt ds M) kLst
@[simp] theorem v_kCp {vs : List Nat} {tg : Tg} {cond : EB} {elt : EP} {env : Env} {ds : List D} {M : List MO} : kCp vs tg cond elt env (ds, M) = bO (compL (wipeE env vs) tg cond elt ds M) kLst := id rfl
def kSet (i : Nat) (env : Env) : (D × Bool) × List MO → Option (Fl × Env × List MO)
  | (r, M) => if i < env.length then some (.nx, putSl env i r, M) else none
@[simp] theorem v_kSet {i : Nat} {env : Env} {r : D × Bool} {M : List MO} : kSet i env (r, M) = if i < env.length then some (.nx, putSl env i r, M) else none := id rfl
def kTp2 (M : List MO) : Env → Option (Fl × Env × List MO)
  | e => some (.nx, e, M)
@[simp] theorem v_kTp2 {M : List MO} {e : Env} : kTp2 M e = some (.nx, e, M) := id rfl
def kTp (t : Tg) (env : Env) : D × List MO → Option (Fl × Env × List MO)
  | (d, M) => bO (t.bind d env) (kTp2 M)
@[simp] theorem v_kTp {t : Tg} {env : Env} {d : D} {M : List MO} : kTp t env (d, M) = bO (t.bind d env) (kTp2 M) := id rfl
def kPr2 (i : Nat) (j : Nat) (env : Env) (r : D × Bool) : (D × Bool) × List MO → Option (Fl × Env × List MO)
  | (s, M) => if i < env.length ∧ j < env.length ∧ i ≠ j then some (.nx, putSl (putSl env i r) j s, M) else none
@[simp] theorem v_kPr2 {i : Nat} {j : Nat} {env : Env} {r : D × Bool} {s : D × Bool} {M : List MO} : kPr2 i j env r (s, M) = if i < env.length ∧ j < env.length ∧ i ≠ j then some (.nx, putSl (putSl env i r) j s, M) else none := id rfl
def kPr1 (i : Nat) (j : Nat) (g : EE) (env : Env) : (D × Bool) × List MO → Option (Fl × Env × List MO)
  | (r, M) => bO (g env M) (kPr2 i j env r)
@[simp] theorem v_kPr1 {i : Nat} {j : Nat} {g : EE} {env : Env} {r : D × Bool} {M : List MO} : kPr1 i j g env (r, M) = bO (g env M) (kPr2 i j env r) := id rfl
def kQ3 (i j l : Nat) (env : Env) (r t : D × Bool) : (D × Bool) × List MO → Option (Fl × Env × List MO)
  | (s, M) => if i < env.length ∧ j < env.length ∧ l < env.length then some (.nx, putSl (putSl (putSl env i r) j t) l s, M) else none
@[simp] theorem v_kQ3 {i j l : Nat} {env : Env} {r t s : D × Bool} {M : List MO} : kQ3 i j l env r t (s, M) = if i < env.length ∧ j < env.length ∧ l < env.length then some (.nx, putSl (putSl (putSl env i r) j t) l s, M) else none := id rfl
def kQ2 (i j l : Nat) (h : EE) (env : Env) (r : D × Bool) : (D × Bool) × List MO → Option (Fl × Env × List MO)
  | (t, M) => bO (h env M) (kQ3 i j l env r t)
@[simp] theorem v_kQ2 {i j l : Nat} {h : EE} {env : Env} {r t : D × Bool} {M : List MO} : kQ2 i j l h env r (t, M) = bO (h env M) (kQ3 i j l env r t) := id rfl
def kQ1 (i j l : Nat) (g h : EE) (env : Env) : (D × Bool) × List MO → Option (Fl × Env × List MO)
  | (r, M) => bO (g env M) (kQ2 i j l h env r)
@[simp] theorem v_kQ1 {i j l : Nat} {g h : EE} {env : Env} {r : D × Bool} {M : List MO} : kQ1 i j l g h env (r, M) = bO (g env M) (kQ2 i j l h env r) := id rfl
def kEx (env : Env) : (D × Bool) × List MO → Option (Fl × Env × List MO)
  | (r, M) => some (.nx, env, M)
@[simp] theorem v_kEx {env : Env} {r : D × Bool} {M : List MO} : kEx env (r, M) = some (.nx, env, M) := id rfl
def kRet (env : Env) : (D × Bool) × List MO → Option (Fl × Env × List MO)
  | (r, M) => some (.rt r, env, M)
@[simp] theorem v_kRet {env : Env} {r : D × Bool} {M : List MO} : kRet env (r, M) = some (.rt r, env, M) := id rfl
def kSIf (f : ES) (g : ES) (env : Env) : Bool × List MO → Option (Fl × Env × List MO)
  | (b, M) => if b = true then f env M else g env M
@[simp] theorem v_kSIf {f : ES} {g : ES} {env : Env} {b : Bool} {M : List MO} : kSIf f g env (b, M) = if b = true then f env M else g env M := id rfl
def kFor (t : Tg) (body : ES) (env : Env) : List D × List MO → Option (Fl × Env × List MO)
  | (ds, M) => forL env t body ds env M
@[simp] theorem v_kFor {t : Tg} {body : ES} {env : Env} {ds : List D} {M : List MO} : kFor t body env (ds, M) = forL env t body ds env M := id rfl
def kBd (ts : List Tg) (ds : List D) : Env → Option (Env)
  | e => Tg.binds ts ds e
@[simp] theorem v_kBd {ts : List Tg} {ds : List D} {e : Env} : kBd ts ds e = Tg.binds ts ds e := id rfl
def kAg2 (i : Nat) (env : Env) (a : Int) (M : List MO) : Int → Option (Fl × Env × List MO)
  | b => some (.nx, env.set i (.fz (.int (a + b))), M)
@[simp] theorem v_kAg2 {i : Nat} {env : Env} {a : Int} {M : List MO} {b : Int} : kAg2 i env a M b = some (.nx, env.set i (.fz (.int (a + b))), M) := id rfl
def kAg (i : Nat) (env : Env) (a : Int) : D × List MO → Option (Fl × Env × List MO)
  | (x, M) => bO (asI x) (kAg2 i env a M)
@[simp] theorem v_kAg {i : Nat} {env : Env} {a : Int} {x : D} {M : List MO} : kAg i env a (x, M) = bO (asI x) (kAg2 i env a M) := id rfl
def kAp (i : Nat) (env : Env) (ds : List D) : D × List MO → Option (Fl × Env × List MO)
  | (x, M) => if ds.length < LIM then some (.nx, env.set i (.own (.lst (ds ++ [x]))), M) else none
@[simp] theorem v_kAp {i : Nat} {env : Env} {ds : List D} {x : D} {M : List MO} : kAp i env ds (x, M) = if ds.length < LIM then some (.nx, env.set i (.own (.lst (ds ++ [x]))), M) else none := id rfl
def kXt2 (i : Nat) (env : Env) (ds : List D) (M : List MO) : List D → Option (Fl × Env × List MO)
  | es => if ds.length + es.length ≤ LIM then some (.nx, env.set i (.own (.lst (ds ++ es))), M) else none
@[simp] theorem v_kXt2 {i : Nat} {env : Env} {ds : List D} {M : List MO} {es : List D} : kXt2 i env ds M es = if ds.length + es.length ≤ LIM then some (.nx, env.set i (.own (.lst (ds ++ es))), M) else none := id rfl
def kXt (i : Nat) (env : Env) (ds : List D) : D × List MO → Option (Fl × Env × List MO)
  | (x, M) => bO (asX x) (kXt2 i env ds M)
@[simp] theorem v_kXt {i : Nat} {env : Env} {ds : List D} {x : D} {M : List MO} : kXt i env ds (x, M) = bO (asX x) (kXt2 i env ds M) := id rfl
def kGt4 (ks : List Key) (ds : List D) (z : D) (M : List MO) : Key → Option ((D × Bool) × List MO)
  | k => some (((dctGet ks ds k).getD z, false), M)
@[simp] theorem v_kGt4 {ks : List Key} {ds : List D} {z : D} {M : List MO} {k : Key} : kGt4 ks ds z M k = some (((dctGet ks ds k).getD z, false), M) := id rfl
def kGt3 (ks : List Key) (ds : List D) (y : D) : D × List MO → Option ((D × Bool) × List MO)
  | (z, M) => bO y.key (kGt4 ks ds z M)
@[simp] theorem v_kGt3 {ks : List Key} {ds : List D} {y : D} {z : D} {M : List MO} : kGt3 ks ds y (z, M) = bO y.key (kGt4 ks ds z M) := id rfl
def kGt2 (fc : EP) (env : Env) (ks : List Key) (ds : List D) : D × List MO → Option ((D × Bool) × List MO)
  | (y, M) => bO (fc env M) (kGt3 ks ds y)
@[simp] theorem v_kGt2 {fc : EP} {env : Env} {ks : List Key} {ds : List D} {y : D} {M : List MO} : kGt2 fc env ks ds (y, M) = bO (fc env M) (kGt3 ks ds y) := id rfl
def kGtD (fb : EP) (fc : EP) (env : Env) (M : List MO) : List Key × List D → Option ((D × Bool) × List MO)
  | (ks, ds) => bO (fb env M) (kGt2 fc env ks ds)
@[simp] theorem v_kGtD {fb : EP} {fc : EP} {env : Env} {M : List MO} {ks : List Key} {ds : List D} : kGtD fb fc env M (ks, ds) = bO (fb env M) (kGt2 fc env ks ds) := id rfl
def kGt1 (fb : EP) (fc : EP) (env : Env) : D × List MO → Option ((D × Bool) × List MO)
  | (x, M) => bO (asD x) (kGtD fb fc env M)
@[simp] theorem v_kGt1 {fb : EP} {fc : EP} {env : Env} {x : D} {M : List MO} : kGt1 fb fc env (x, M) = bO (asD x) (kGtD fb fc env M) := id rfl
def kZL : List D × List MO → Option ((D × Bool) × List MO)
  | (x, M) => some ((.lst x, true), M)
@[simp] theorem v_kZL {x : List D} {M : List MO} : kZL (x, M) = some ((.lst x, true), M) := id rfl
section
variable {env : Env} {M : List MO}
@[simp] theorem v_sPre0 {f : ES} : sPre [] f = f := id rfl
@[simp] theorem v_sPre {i : Nat} {is : List Nat} {f : ES} : sPre (i :: is) f env M = sPre is f (frz1 env i) M := id rfl
@[simp] theorem v_frz1 {i : Nat} : frz1 env i = match env[i]? with
  | some (.own d) => env.set i (.fz d)
  | _ => env := rfl
@[simp] theorem v_eFzOld {f : EP} : eFz (eOld f) = f := by
  funext env M
  unfold eFz eOld
  cases f env M <;> rfl
@[simp] theorem v_eFz {f : EE} : eFz f env M = bO (f env M) kFz := by
  unfold eFz bO
  cases f env M with
  | none => rfl
  | some p =>
    obtain ⟨⟨a, b⟩, c⟩ := p
    rfl
@[simp] theorem v_eOld {f : EP} : eOld f env M = bO (f env M) kOld := by
  unfold eOld bO
  cases f env M with
  | none => rfl
  | some p =>
    obtain ⟨a, b⟩ := p
    rfl
@[simp] theorem v_eVar {i : Nat} : eVar i env M = match env[i]? with
  | some (.fz d) => some (d, M)
  | _ => none := rfl
@[simp] theorem v_ePk {i : Nat} : ePk i env M = match env[i]? with
  | some (.fz d) => some (d, M)
  | some (.own d) => some (d, M)
  | _ => none := rfl
@[simp] theorem v_eCst {d : D} : eCst d env M = some (d, M) := id rfl
@[simp] theorem v_eOp {f : Op2} {fa fb : EP} : eOp f fa fb env M = bO (fa env M) (kOp1 f fb env) := by
  unfold eOp bO
  cases fa env M with
  | none => rfl
  | some p =>
    obtain ⟨x, M1⟩ := p
    dsimp only [kOp1]
    unfold bO
    cases fb env M1 with
    | none => rfl
    | some q =>
      obtain ⟨y, M2⟩ := q
      dsimp only [kOp2]
      unfold bO
      cases f x y <;> rfl
@[simp] theorem v_eUn {f : Op1} {fa : EP} : eUn f fa env M = bO (fa env M) (kUn f) := by
  unfold eUn bO
  cases fa env M with
  | none => rfl
  | some p =>
    obtain ⟨x, M1⟩ := p
    dsimp only [kUn]
    unfold bO
    cases f x <;> rfl
@[simp] theorem v_eCall {f : OpN} {fs : EL} : eCall f fs env M = bO (fs env M) (kCall f) := by
  unfold eCall bO
  cases fs env M with
  | none => rfl
  | some p =>
    obtain ⟨x, M1⟩ := p
    dsimp only [kCall]
    unfold bO
    cases f x <;> rfl
@[simp] theorem v_eNil : eNil env M = some ([], M) := id rfl
@[simp] theorem v_eCons {f : EP} {g : EL} : eCons f g env M = bO (f env M) (kCons1 g env) := by
  unfold eCons bO
  cases f env M with
  | none => rfl
  | some p =>
    obtain ⟨x, M1⟩ := p
    dsimp only [kCons1]
    unfold bO
    cases g env M1 <;> rfl
@[simp] theorem v_eFn {F : Fn} {fs : EL} : eFn F fs env M = bO (fs env M) (kFn F) := by
  unfold eFn bO
  cases fs env M with
  | none => rfl
  | some p =>
    obtain ⟨a, b⟩ := p
    rfl
@[simp] theorem v_eTup {f : EL} : eTup f env M = bO (f env M) kTup := by
  unfold eTup bO
  cases f env M with
  | none => rfl
  | some p =>
    obtain ⟨a, b⟩ := p
    rfl
@[simp] theorem v_eLst {f : EL} : eLst f env M = bO (f env M) kLst := by
  unfold eLst bO
  cases f env M with
  | none => rfl
  | some p =>
    obtain ⟨a, b⟩ := p
    rfl
@[simp] theorem v_tbB {f : EP} : tbB f env M = bO (f env M) kB := by
  unfold tbB bO
  cases f env M with
  | none => rfl
  | some p =>
    obtain ⟨x, M1⟩ := p
    cases x <;> rfl
@[simp] theorem v_eNot {f : EB} : eNot f env M = bO (f env M) kNot := by
  unfold eNot bO
  cases f env M with
  | none => rfl
  | some p =>
    obtain ⟨a, b⟩ := p
    rfl
@[simp] theorem v_bVal {f : EB} : bVal f env M = bO (f env M) kBv := by
  unfold bVal bO
  cases f env M with
  | none => rfl
  | some p =>
    obtain ⟨a, b⟩ := p
    rfl
@[simp] theorem v_eIf {c : EB} {f g : EE} : eIf c f g env M = bO (c env M) (kIf f g env) := by
  unfold eIf bO
  cases c env M with
  | none => rfl
  | some p =>
    obtain ⟨b, M1⟩ := p
    cases b <;> rfl
@[simp] theorem v_eAnd {f g : EB} : eAnd f g env M = bO (f env M) (kAnd g env) := by
  unfold eAnd bO
  cases f env M with
  | none => rfl
  | some p =>
    obtain ⟨b, M1⟩ := p
    cases b <;> rfl
@[simp] theorem v_eOr {f g : EB} : eOr f g env M = bO (f env M) (kOr g env) := by
  unfold eOr bO
  cases f env M with
  | none => rfl
  | some p =>
    obtain ⟨b, M1⟩ := p
    cases b <;> rfl
@[simp] theorem v_vAnd {f : EB} {g : EE} : vAnd f g env M = bO (f env M) (kvAnd g env) := by
  unfold vAnd bO
  cases f env M with
  | none => rfl
  | some p =>
    obtain ⟨b, M1⟩ := p
    cases b <;> rfl
@[simp] theorem v_vOr {f : EB} {g : EE} : vOr f g env M = bO (f env M) (kvOr g env) := by
  unfold vOr bO
  cases f env M with
  | none => rfl
  | some p =>
    obtain ⟨b, M1⟩ := p
    cases b <;> rfl
@[simp] theorem v_eChain {f g : Op2} {fa fb fc : EP} : eChain f g fa fb fc env M = bO (fa env M) (kCh1 f g fb fc env) := by
  unfold eChain bO
  cases fa env M with
  | none => rfl
  | some p =>
    obtain ⟨x, M1⟩ := p
    dsimp only [kCh1]
    unfold bO
    cases fb env M1 with
    | none => rfl
    | some q =>
      obtain ⟨y, M2⟩ := q
      dsimp only [kCh2]
      unfold bO
      cases f x y with
      | none => rfl
      | some r =>
        obtain ⟨d, fl⟩ := r
        cases d with
        | bl b =>
          cases fl with
          | true => cases b <;> rfl
          | false =>
            cases b with
            | false => rfl
            | true =>
              dsimp only [asN, kCh3]
              rw [if_pos rfl]
              unfold bO
              cases fc env M2 with
              | none => rfl
              | some s =>
                obtain ⟨z, M3⟩ := s
                dsimp only [kCh4]
                unfold bO
                cases g y z <;> rfl
        | _ => cases fl <;> rfl
@[simp] theorem v_tbV {f : EP} : tbV f env M = bO (f env M) kV := by
  unfold tbV bO
  cases f env M with
  | none => rfl
  | some p =>
    obtain ⟨x, M1⟩ := p
    dsimp only [kV]
    unfold bO
    cases x.truth <;> rfl
@[simp] theorem v_eNoP : eNoP env M = some (none, M) := id rfl
@[simp] theorem v_eSomeP {f : EP} : eSomeP f env M = bO (f env M) kI := by
  unfold eSomeP bO
  cases f env M with
  | none => rfl
  | some p =>
    obtain ⟨x, M1⟩ := p
    cases x <;> rfl
@[simp] theorem v_eSl {f : EP} {lo hi : EO} : eSl f lo hi env M = bO (f env M) (kSl1 lo hi env) := by
  unfold eSl bO
  cases f env M with
  | none => rfl
  | some p =>
    obtain ⟨x, M1⟩ := p
    dsimp only [kSl1]
    unfold bO
    cases lo env M1 with
    | none => rfl
    | some q =>
      obtain ⟨a, M2⟩ := q
      dsimp only [kSl2]
      unfold bO
      cases hi env M2 with
      | none => rfl
      | some r =>
        obtain ⟨b, M3⟩ := r
        dsimp only [kSl3]
        unfold bO
        cases dSl a b x <;> rfl
@[simp] theorem v_eIxM {fa fb : EP} : eIxM fa fb env M = bO (fa env M) (kIx1 fb env) := by
  unfold eIxM bO
  cases fa env M with
  | none => rfl
  | some p =>
    obtain ⟨x, M1⟩ := p
    dsimp only [kIx1]
    unfold bO
    cases fb env M1 <;> rfl
theorem ixM_of {x y : D} (h : ∀ n, x ≠ .obj n) : ixM x y M = bO (dIx x y) fun r => some (r, M) := by
  unfold ixM
  split
  · exact absurd rfl (h _)
  · unfold bO
    cases dIx x y <;> rfl
@[simp] theorem ixM_tup {xs : List D} {y : D} : ixM (.tup xs) y M = bO (dIx (.tup xs) y) fun r => some (r, M) := ixM_of fun n h => nomatch h
@[simp] theorem ixM_lst {xs : List D} {y : D} : ixM (.lst xs) y M = bO (dIx (.lst xs) y) fun r => some (r, M) := ixM_of fun n h => nomatch h
@[simp] theorem ixM_scr {xs : List D} {y : D} : ixM (.scr xs) y M = bO (dIx (.scr xs) y) fun r => some (r, M) := ixM_of fun n h => nomatch h
@[simp] theorem ixM_dct {ks : List Key} {xs : List D} {y : D} : ixM (.dct ks xs) y M = bO (dIx (.dct ks xs) y) fun r => some (r, M) := ixM_of fun n h => nomatch h
@[simp] theorem ixM_obj {n : Nat} {i : Int} {ds : List D} (h : M[n]? = some (.lst ds)) : ixM (.obj n) (.int i) M = bO (atI ds i) fun d => some ((d, false), M) := by
  unfold ixM bO
  dsimp only
  rw [h]
  dsimp only
  cases atI ds i <;> rfl
@[simp] theorem v_eLive {f : EE} : eLive f env M = match f env M with
  | some ((.lst ds, true), M') => some (.obj M'.length, M' ++ [.lst ds])
  | _ => none := rfl
@[simp] theorem v_iSeq {f : EP} : iSeq f env M = bO (f env M) kWk := by
  unfold iSeq bO
  cases f env M with
  | none => rfl
  | some p =>
    obtain ⟨x, M1⟩ := p
    dsimp only [kWk]
    unfold bO
    cases walkD x <;> rfl
@[simp] theorem v_iEnumD {f : EP} : iEnumD f env M = bO (f env M) kEn := by
  unfold iEnumD bO
  cases f env M with
  | none => rfl
  | some p =>
    obtain ⟨x, M1⟩ := p
    dsimp only [kEn]
    unfold bO
    cases seqItems x <;> rfl
@[simp] theorem v_iZipD {fs : EL} : iZipD fs env M = match fs env M with
  | some ([x, y], M1) => match seqItems x, seqItems y with
    | some xs, some ys => some (zipD xs ys, M1)
    | _, _ => none
  | _ => none := rfl
@[simp] theorem v_iZip3 {fs : EL} : iZip3 fs env M = match fs env M with
  | some ([x, y, z], M1) => match seqItems x, seqItems y, seqItems z with
    | some xs, some ys, some zs => some (zip3D xs ys zs, M1)
    | _, _, _ => none
  | _ => none := id rfl
@[simp] theorem v_iRng {fs : EL} : iRng fs env M = match fs env M with
  | some ([.int j], M1) => if rng62 j then some (rints 0 j.toNat, M1) else none
  | some ([.int i, .int j], M1) => if rng62 i && rng62 j then some (rints i (j - i).toNat, M1) else none
  | _ => none := rfl
@[simp] theorem v_eRngL {fs : EL} : eRngL fs env M = bO (iRng fs env M) kRL := by
  unfold eRngL bO
  cases iRng fs env M with
  | none => rfl
  | some p =>
    obtain ⟨a, b⟩ := p
    rfl
@[simp] theorem v_eRngT {fs : EL} : eRngT fs env M = bO (iRng fs env M) kRT := by
  unfold eRngT bO
  cases iRng fs env M with
  | none => rfl
  | some p =>
    obtain ⟨a, b⟩ := p
    rfl
@[simp] theorem v_eComp {vs : List Nat} {it : EI} {tg : Tg} {cond : EB} {elt : EP} : eComp vs it tg cond elt env M = bO (it env M) (kCp vs tg cond elt env) := by
  unfold eComp bO
  cases it env M with
  | none => rfl
  | some p =>
    obtain ⟨x, M1⟩ := p
    dsimp only [kCp]
    unfold bO
    cases compL (wipeE env vs) tg cond elt x M1 <;> rfl
@[simp] theorem v_wipe0 : wipeE env [] = env := id rfl
@[simp] theorem v_wipe {v : Nat} {vs : List Nat} : wipeE env (v :: vs) = (wipeE env vs).set v .no := id rfl
@[simp] theorem v_eYes : eYes env M = some (true, M) := id rfl
@[simp] theorem v_bindN {i : Nat} {d : D} : (Tg.nm i).bind d env = if i < env.length then some (env.set i (.fz d)) else none := id rfl
@[simp] theorem v_bindT {ts : List Tg} {ds : List D} : (Tg.tp ts).bind (.tup ds) env = Tg.binds ts ds env := id rfl
@[simp] theorem v_binds0 : Tg.binds [] [] env = some env := id rfl
@[simp] theorem v_binds {t : Tg} {ts : List Tg} {d : D} {ds : List D} : Tg.binds (t :: ts) (d :: ds) env = bO (Tg.bind t d env) (kBd ts ds) := by
  rw [Tg.binds]
  unfold bO
  cases Tg.bind t d env <;> rfl
@[simp] theorem v_sSet {i : Nat} {f : EE} : sSet i f env M = bO (f env M) (kSet i env) := by
  unfold sSet bO
  cases f env M with
  | none => rfl
  | some p =>
    obtain ⟨a, b⟩ := p
    rfl
@[simp] theorem v_putF {i : Nat} {d : D} : putSl env i (d, false) = env.set i (.fz d) := id rfl
@[simp] theorem v_putT {i : Nat} {d : D} : putSl env i (d, true) = env.set i (.own d) := id rfl
@[simp] theorem v_sTup {t : Tg} {f : EP} : sTup t f env M = bO (f env M) (kTp t env) := by
  unfold sTup bO
  cases f env M with
  | none => rfl
  | some p =>
    obtain ⟨x, M1⟩ := p
    dsimp only [kTp]
    unfold bO
    cases t.bind x env <;> rfl
@[simp] theorem v_sPar {i j : Nat} {f g : EE} : sPar i j f g env M = bO (f env M) (kPr1 i j g env) := by
  unfold sPar bO
  cases f env M with
  | none => rfl
  | some p =>
    obtain ⟨x, M1⟩ := p
    dsimp only [kPr1]
    unfold bO
    cases g env M1 <;> rfl
@[simp] theorem v_sPar3 {i j l : Nat} {f g h : EE} : sPar3 i j l f g h env M = bO (f env M) (kQ1 i j l g h env) := by
  unfold sPar3 bO
  cases f env M with
  | none => rfl
  | some p =>
    obtain ⟨x, M1⟩ := p
    dsimp only [kQ1]
    unfold bO
    cases g env M1 with
    | none => rfl
    | some p =>
      obtain ⟨y, M2⟩ := p
      dsimp only [kQ2]
      unfold bO
      cases h env M2 <;> rfl
@[simp] theorem v_sNx : sNx env M = some (.nx, env, M) := id rfl
@[simp] theorem v_sCt : sCt env M = some (.ct, env, M) := id rfl
@[simp] theorem v_sBk : sBk env M = some (.bk, env, M) := id rfl
@[simp] theorem v_sNone : sNone env M = none := id rfl
@[simp] theorem v_sEx {f : EE} : sEx f env M = bO (f env M) (kEx env) := by
  unfold sEx bO
  cases f env M with
  | none => rfl
  | some p =>
    obtain ⟨a, b⟩ := p
    rfl
@[simp] theorem v_sRet {f : EE} : sRet f env M = bO (f env M) (kRet env) := by
  unfold sRet bO
  cases f env M with
  | none => rfl
  | some p =>
    obtain ⟨a, b⟩ := p
    rfl
@[simp] theorem v_sRetN : sRetN env M = some (.rt (.non, false), env, M) := id rfl
@[simp] theorem v_sRetV {i : Nat} : sRetV i env M = match env[i]? with
  | some (.fz d) => some (.rt (d, false), env, M)
  | some (.own d) => some (.rt (d, true), env, M)
  | _ => none := rfl
@[simp] theorem v_sSeq {f g : ES} : sSeq f g env M = bS (f env M) g := by
  unfold sSeq bS
  cases f env M with
  | none => rfl
  | some p =>
    obtain ⟨fl, e1, M1⟩ := p
    cases fl <;> rfl
@[simp] theorem v_sIf {c : EB} {f g : ES} : sIf c f g env M = bO (c env M) (kSIf f g env) := by
  unfold sIf bO
  cases c env M with
  | none => rfl
  | some p =>
    obtain ⟨b, M1⟩ := p
    cases b <;> rfl
@[simp] theorem v_sFor {it : EI} {t : Tg} {body : ES} : sFor it t body env M = bO (it env M) (kFor t body env) := by
  unfold sFor bO
  cases it env M with
  | none => rfl
  | some p =>
    obtain ⟨a, b⟩ := p
    rfl
@[simp] theorem v_sWh {c : EB} {body : ES} : sWh c body env M = whL env c body WLIM env M := id rfl
@[simp] theorem v_sAugI {i : Nat} {f : EP} : sAugI i f env M = match env[i]? with
  | some (.fz (.int a)) => bO (f env M) (kAg i env a)
  | _ => none := by
  unfold sAugI
  cases env[i]? with
  | none => rfl
  | some s =>
    cases s with
    | fz d =>
      cases d with
      | int a =>
        dsimp only
        unfold bO
        cases f env M with
        | none => rfl
        | some p =>
          obtain ⟨d, M1⟩ := p
          cases d <;> rfl
      | _ => rfl
    | _ => rfl
@[simp] theorem v_sApp {i : Nat} {f : EP} : sApp i f env M = match env[i]? with
  | some (.own (.lst ds)) => bO (f env M) (kAp i env ds)
  | _ => none := by
  unfold sApp
  cases env[i]? with
  | none => rfl
  | some s =>
    cases s with
    | own d =>
      cases d with
      | lst a =>
        dsimp only
        unfold bO
        cases f env M <;> rfl
      | _ => rfl
    | _ => rfl
@[simp] theorem v_sExt {i : Nat} {f : EP} : sExt i f env M = match env[i]? with
  | some (.own (.lst ds)) => bO (f env M) (kXt i env ds)
  | _ => none := by
  unfold sExt
  cases env[i]? with
  | none => rfl
  | some s =>
    cases s with
    | own d =>
      cases d with
      | lst a =>
        dsimp only
        unfold bO
        cases f env M with
        | none => rfl
        | some p =>
          obtain ⟨d, M1⟩ := p
          cases d <;> rfl
      | _ => rfl
    | _ => rfl
@[simp] theorem v_sPop {i j : Nat} : sPop j i env M = match env[i]? with
  | some (.own (.lst ds)) => match ds.getLast? with
    | some d => if j < env.length ∧ i ≠ j then some (.nx, (env.set i (.own (.lst ds.dropLast))).set j (.fz d), M) else none
    | none => none
  | _ => none := rfl
@[simp] theorem v_sSub {i : Nat} {fi fe : EP} : sSub i fi fe env M = match fe env M with
  | some (d, M1) => match env[i]? with
    | some (.fz (.obj n)) => match fi env M1 with
      | some (.int k, M2) => match M2[n]? with
        | some (.lst ds) => match ixN ds.length k with
          | some j => some (.nx, env, M2.set n (.lst (ds.set j d)))
          | none => none
        | _ => none
      | _ => none
    | some (.own (.lst ds)) => match fi env M1 with
      | some (.int k, M2) => match ixN ds.length k with
        | some j => some (.nx, env.set i (.own (.lst (ds.set j d))), M2)
        | none => none
      | _ => none
    | some (.own (.dct ks ds)) => match fi env M1 with
      | some (y, M2) => match y.key with
        | some k => if ks.length < LIM then some (.nx, env.set i (.own (.dct (dctPut ks ds k d).1 (dctPut ks ds k d).2)), M2) else none
        | none => none
      | none => none
    | _ => none
  | none => none := rfl
@[simp] theorem v_eZipL {fs : EL} : eZipL fs env M = bO (iZipD fs env M) kZL := by
  unfold eZipL bO
  cases iZipD fs env M with
  | none => rfl
  | some p =>
    obtain ⟨a, b⟩ := p
    rfl
@[simp] theorem v_eDct0 : eDct0 env M = some ((.dct [] [], true), M) := id rfl
@[simp] theorem v_eGet2 {fa fb fc : EP} : eGet2 fa fb fc env M = bO (fa env M) (kGt1 fb fc env) := by
  unfold eGet2 bO
  cases fa env M with
  | none => rfl
  | some p =>
    obtain ⟨x, M1⟩ := p
    cases x with
    | dct ks ds =>
      show _ = kGtD fb fc env M1 (ks, ds)
      dsimp only [kGtD]
      unfold bO
      cases fb env M1 with
      | none => rfl
      | some q =>
        obtain ⟨y, M2⟩ := q
        dsimp only [kGt2]
        unfold bO
        cases fc env M2 with
        | none => rfl
        | some r =>
          obtain ⟨z, M3⟩ := r
          dsimp only [kGt3]
          unfold bO
          cases y.key <;> rfl
    | _ => rfl
/-! loops -/
@[simp] theorem v_keep0 {bs : Env} : keepE [] bs = bs := by rw [keepE]
@[simp] theorem v_keepC {as bs : Env} {a b : Sl} : keepE (a :: as) (b :: bs) = keep1 a b :: keepE as bs := by rw [keepE]
@[simp] theorem v_keepN {b : Sl} : keep1 .no b = .no := id rfl
@[simp] theorem v_keepF {b : Sl} {d : D} : keep1 (.fz d) b = b := id rfl
@[simp] theorem v_keepS {b : Sl} : keep1 b b = b := by cases b <;> rfl
@[simp] theorem v_keepO {b : Sl} {d : D} : keep1 (.own d) b = b := id rfl
/-- how a turn ends -/
def tn (e0 : Env) (o : Option (Fl × Env × List MO)) : Option (Fl × Env × List MO) := match o with
  | some (.nx, e, M) => some (.nx, keepE e0 e, M)
  | some (.ct, e, M) => some (.nx, keepE e0 e, M)
  | some (.bk, e, M) => some (.bk, keepE e0 e, M)
  | some (.rt r, e, M) => some (.rt r, e, M)
  | none => none
/-- .. and what goes on behind it -/
def bL (o : Option (Fl × Env × List MO)) (k : Env → List MO → Option (Fl × Env × List MO)) : Option (Fl × Env × List MO) := match o with
  | some (.nx, e, M) => k e M
  | some (.ct, e, M) => k e M
  | some (.bk, e, M) => some (.nx, e, M)
  | some (.rt r, e, M) => some (.rt r, e, M)
  | none => none
section
variable {k : Env → List MO → Option (Fl × Env × List MO)} {e0 e : Env} {r : D × Bool}
@[simp] theorem tn_nx : tn e0 (some (.nx, e, M)) = some (.nx, keepE e0 e, M) := id rfl
@[simp] theorem tn_ct : tn e0 (some (.ct, e, M)) = some (.nx, keepE e0 e, M) := id rfl
@[simp] theorem tn_bk : tn e0 (some (.bk, e, M)) = some (.bk, keepE e0 e, M) := id rfl
@[simp] theorem tn_rt : tn e0 (some (.rt r, e, M)) = some (.rt r, e, M) := id rfl
@[simp] theorem tn_none : tn e0 none = none := id rfl
@[simp] theorem tn_ite {p : Prop} [Decidable p] {a b : Option (Fl × Env × List MO)} : tn e0 (if p then a else b) = if p then tn e0 a else tn e0 b := by
  by_cases h : p <;> simp [h]
@[simp] theorem bL_nx : bL (some (.nx, e, M)) k = k e M := id rfl
@[simp] theorem bL_bk : bL (some (.bk, e, M)) k = some (.nx, e, M) := id rfl
@[simp] theorem bL_rt : bL (some (.rt r, e, M)) k = some (.rt r, e, M) := id rfl
@[simp] theorem bL_none : bL none k = none := id rfl
@[simp] theorem bL_ite {p : Prop} [Decidable p] {a b : Option (Fl × Env × List MO)} : bL (if p then a else b) k = if p then bL a k else bL b k := by
  by_cases h : p <;> simp [h]
/-- a turn of a loop -/
def stepL (e0 : Env) (t : Tg) (body : ES) (d : D) (env : Env) (M : List MO) : Option (Fl × Env × List MO) := bO (t.bind d env) fun e1 => tn e0 (body e1 M)
theorem forL_nil {t : Tg} {body : ES} : forL e0 t body [] env M = some (.nx, env, M) := rfl
theorem forL_cons {t : Tg} {body : ES} {d : D} {ds : List D} : forL e0 t body (d :: ds) env M = bL (stepL e0 t body d env M) fun e2 M2 => forL e0 t body ds e2 M2 := by
  unfold stepL bO tn bL
  rw [forL]
  cases t.bind d env with
  | none => rfl
  | some e1 =>
    dsimp only
    cases body e1 M with
    | none => rfl
    | some p =>
      obtain ⟨fl, e2, M2⟩ := p
      cases fl <;> rfl
theorem whL_zero {c : EB} {body : ES} : whL e0 c body 0 env M = none := rfl
theorem whL_succ {c : EB} {body : ES} {n : Nat} : whL e0 c body (n + 1) env M = bO (c env M) fun p => if p.1 = true then bL (tn e0 (body env p.2)) (fun e2 M2 => whL e0 c body n e2 M2) else some (.nx, env, p.2) := by
  unfold bO tn bL
  rw [whL]
  cases c env M with
  | none => rfl
  | some p =>
    obtain ⟨b, M1⟩ := p
    cases b with
    | false => rfl
    | true =>
      dsimp only
      rw [if_pos rfl]
      cases body env M1 with
      | none => rfl
      | some p =>
        obtain ⟨fl, e2, M2⟩ := p
        cases fl <;> rfl
end
end
/-! values -/
@[simp] theorem w_addI {a b : Int} : dAdd (.int a) (.int b) = some (.int (a + b), false) := id rfl
@[simp] theorem w_subI {a b : Int} : dSub (.int a) (.int b) = some (.int (a - b), false) := id rfl
theorem w_mulI {a b : Int} (h : (-(2 ^ 64) < a ∧ a < 2 ^ 64) ∨ (-(2 ^ 64) < b ∧ b < 2 ^ 64)) : dMul (.int a) (.int b) = some (.int (a * b), false) := if_pos h
theorem w_divI {a b : Int} (h : 0 < b ∧ b < 1073741824) : dDiv (.int a) (.int b) = some (.int (a / b), false) := if_pos h
theorem w_modI {a b : Int} (h : 0 < b) : dMod (.int a) (.int b) = some (.int (a % b), false) := if_pos h
theorem w_addT {a b : List D} (h : a.length + b.length ≤ LIM) : dAdd (.tup a) (.tup b) = some (.tup (a ++ b), false) := if_pos h
theorem w_addL {a b : List D} (h : a.length + b.length ≤ LIM) : dAdd (.lst a) (.lst b) = some (.lst (a ++ b), true) := if_pos h
@[simp] theorem w_ltI {a b : Int} : dLt (.int a) (.int b) = some (.bl (decide (a < b)), false) := id rfl
@[simp] theorem w_leI {a b : Int} : dLe (.int a) (.int b) = some (.bl (decide (a ≤ b)), false) := id rfl
@[simp] theorem w_gtI {a b : Int} : dGt (.int a) (.int b) = some (.bl (decide (b < a)), false) := id rfl
@[simp] theorem w_geI {a b : Int} : dGe (.int a) (.int b) = some (.bl (decide (b ≤ a)), false) := id rfl
@[simp] theorem w_lenT {xs : List D} : dLen [.tup xs] = some (.int (xs.length : Nat), false) := id rfl
@[simp] theorem w_lenL {xs : List D} : dLen [.lst xs] = some (.int (xs.length : Nat), false) := id rfl
@[simp] theorem w_lenS {xs : List D} : dLen [.scr xs] = some (.int (xs.length : Nat), false) := id rfl
@[simp] theorem w_lenD {ks : List Key} {xs : List D} : dLen [.dct ks xs] = some (.int (ks.length : Nat), false) := id rfl
@[simp] theorem w_tupT {xs : List D} : dTuple [.tup xs] = some (.tup xs, false) := id rfl
@[simp] theorem w_tupL {xs : List D} : dTuple [.lst xs] = some (.tup xs, false) := id rfl
@[simp] theorem w_lstT {xs : List D} : dList [.tup xs] = some (.lst xs, true) := id rfl
@[simp] theorem w_lstL {xs : List D} : dList [.lst xs] = some (.lst xs, true) := id rfl
@[simp] theorem w_lstS {xs : List D} : dList [.scr xs] = some (.lst xs, true) := id rfl
@[simp] theorem w_intI {a : Int} : dInt [.int a] = some (.int a, false) := id rfl
@[simp] theorem w_absI {a : Int} : dAbs [.int a] = some (.int (if a < 0 then -a else a), false) := id rfl
@[simp] theorem w_max {a b : Int} : dMax2 [.int a, .int b] = some (.int (if b > a then b else a), false) := id rfl
@[simp] theorem w_min {a b : Int} : dMin2 [.int a, .int b] = some (.int (if b < a then b else a), false) := id rfl
@[simp] theorem w_seqT {xs : List D} : seqItems (.tup xs) = some xs := id rfl
@[simp] theorem w_seqL {xs : List D} : seqItems (.lst xs) = some xs := id rfl
@[simp] theorem w_seqS {xs : List D} : seqItems (.scr xs) = some xs := id rfl
@[simp] theorem w_wkT {xs : List D} : walkD (.tup xs) = some xs := id rfl
@[simp] theorem w_wkL {xs : List D} : walkD (.lst xs) = some xs := id rfl
@[simp] theorem w_wkS {xs : List D} : walkD (.scr xs) = some xs := id rfl
@[simp] theorem w_wkC {s : Str} : walkD (.str s) = some (chars s) := id rfl
@[simp] theorem w_trB {b : Bool} : (D.bl b).truth = some b := id rfl
@[simp] theorem w_trI {b : Int} : (D.int b).truth = some (b != 0) := id rfl
@[simp] theorem w_trT {b : List D} : (D.tup b).truth = some (!b.isEmpty) := id rfl
@[simp] theorem w_trL {b : List D} : (D.lst b).truth = some (!b.isEmpty) := id rfl
@[simp] theorem w_sl {lo hi : Option Int} {xs : List D} : dSl lo hi (.tup xs) = some (.tup (cutD xs lo hi), false) := id rfl
@[simp] theorem w_slL {lo hi : Option Int} {xs : List D} : dSl lo hi (.lst xs) = some (.lst (cutD xs lo hi), true) := id rfl
@[simp] theorem w_slS {lo hi : Option Int} {xs : List D} : dSl lo hi (.scr xs) = some (.lst (cutD xs lo hi), true) := id rfl
@[simp] theorem w_revT {xs : List D} : dRev (.tup xs) = some (.tup xs.reverse, false) := id rfl
@[simp] theorem w_revL {xs : List D} : dRev (.lst xs) = some (.lst xs.reverse, true) := id rfl
theorem w_ixT {xs : List D} {i : Int} : dIx (.tup xs) (.int i) = (atI xs i).map fun d => (d, false) := rfl
theorem w_ixL {xs : List D} {i : Int} : dIx (.lst xs) (.int i) = (atI xs i).map fun d => (d, false) := rfl
theorem w_ixS {xs : List D} {i : Int} : dIx (.scr xs) (.int i) = (atI xs i).map fun d => (d, false) := rfl
end R

set_option Elab.async false
set_option linter.all false
set_option maxRecDepth 100000
set_option maxHeartbeats 2000000
/-! R22: plain data -/
namespace R
open PySem PySem.Spec L2
abbrev dI (xs : List Int) : List D := xs.map .int
abbrev iT (xs : List Int) : D := .tup (dI xs)
abbrev iL (xs : List Int) : D := .lst (dI xs)
mutual
/-- whole numbers, texts, None, tuples and lists of these -/
def D.pl : D → Bool
  | .non => true | .bl _ => false | .int _ => true | .str _ => true
  | .tup xs => D.pls xs
  | .lst xs => D.pls xs
  | .scr _ => false
  | .dct _ _ => false
  | .obj _ => false
def D.pls : List D → Bool
  | [] => true
  | x :: xs => D.pl x && D.pls xs
end
mutual
theorem D.pl_pure : ∀ {d : D}, d.pl = true → d.pure = true
  | .non, _ => rfl
  | .int _, _ => rfl
  | .str _, _ => rfl
  | .tup xs, h => D.pls_pure (ds := xs) (by simpa [D.pl] using h)
  | .lst xs, h => D.pls_pure (ds := xs) (by simpa [D.pl] using h)
  | .bl _, h => by simp [D.pl] at h
  | .scr _, h => by simp [D.pl] at h
  | .dct _ _, h => by simp [D.pl] at h
  | .obj _, h => by simp [D.pl] at h
theorem D.pls_pure : ∀ {ds : List D}, D.pls ds = true → D.pures ds = true
  | [], _ => rfl
  | d :: ds, h => by
    rw [D.pls, Bool.and_eq_true] at h
    rw [D.pures, Bool.and_eq_true]
    exact ⟨D.pl_pure h.1, D.pls_pure h.2⟩
end
mutual
theorem D.eqv_iff : ∀ {d e : D}, d.pl = true → e.pl = true → (PyData.eqv d.py e.py = true ↔ d = e)
  | .non, e, _, h => by cases e <;> simp [D.pl, D.py, PyData.eqv] at h ⊢
  | .int i, e, _, h => by cases e <;> simp [D.pl, D.py, PyData.eqv] at h ⊢
  | .str s, e, _, h => by cases e <;> simp [D.pl, D.py, PyData.eqv] at h ⊢
  | .tup xs, .tup ys, h, h' => by
    rw [D.py, D.py, PyData.eqv, D.eqvs_iff (by simpa [D.pl] using h) (by simpa [D.pl] using h')]
    exact ⟨fun e => by rw [e], fun e => D.tup.inj e⟩
  | .lst xs, .lst ys, h, h' => by
    rw [D.py, D.py, PyData.eqv, D.eqvs_iff (by simpa [D.pl] using h) (by simpa [D.pl] using h')]
    exact ⟨fun e => by rw [e], fun e => D.lst.inj e⟩
  | .tup xs, .lst ys, h, h' => by simp [D.py, PyData.eqv]
  | .lst xs, .tup ys, h, h' => by simp [D.py, PyData.eqv]
  | .tup xs, .non, h, h' => by simp [D.py, PyData.eqv]
  | .tup xs, .int _, h, h' => by simp [D.py, PyData.eqv]
  | .tup xs, .str _, h, h' => by simp [D.py, PyData.eqv]
  | .lst xs, .non, h, h' => by simp [D.py, PyData.eqv]
  | .lst xs, .int _, h, h' => by simp [D.py, PyData.eqv]
  | .lst xs, .str _, h, h' => by simp [D.py, PyData.eqv]
  | .tup _, .bl _, _, h => by simp [D.pl] at h
  | .tup _, .scr _, _, h => by simp [D.pl] at h
  | .tup _, .dct _ _, _, h => by simp [D.pl] at h
  | .tup _, .obj _, _, h => by simp [D.pl] at h
  | .lst _, .bl _, _, h => by simp [D.pl] at h
  | .lst _, .scr _, _, h => by simp [D.pl] at h
  | .lst _, .dct _ _, _, h => by simp [D.pl] at h
  | .lst _, .obj _, _, h => by simp [D.pl] at h
  | .bl _, _, h, _ => by simp [D.pl] at h
  | .scr _, _, h, _ => by simp [D.pl] at h
  | .dct _ _, _, h, _ => by simp [D.pl] at h
  | .obj _, _, h, _ => by simp [D.pl] at h
theorem D.eqvs_iff : ∀ {ds es : List D}, D.pls ds = true → D.pls es = true → (PyData.eqvAll (D.pys ds) (D.pys es) = true ↔ ds = es)
  | [], [], _, _ => by simp [D.pys, PyData.eqvAll]
  | [], _ :: _, _, _ => by simp [D.pys, PyData.eqvAll]
  | _ :: _, [], _, _ => by simp [D.pys, PyData.eqvAll]
  | d :: ds, e :: es, h, h' => by
    rw [D.pls, Bool.and_eq_true] at h h'
    rw [D.pys, D.pys, PyData.eqvAll, Bool.and_eq_true, D.eqv_iff h.1 h'.1, D.eqvs_iff h.2 h'.2, List.cons.injEq]
end
theorem D.okEq_pl {d e : D} (h : d.pl = true) (h' : e.pl = true) (hd : d.depth ≤ 64) : d.okEq e = true := by
  unfold D.okEq
  rw [D.pl_pure h, D.pl_pure h']
  simp only [Bool.true_and, decide_eq_true_eq]
  omega
theorem dEq_same {d : D} (h : d.pl = true) (hd : d.depth ≤ 64) : dEq d d = some (.bl true, false) := by
  unfold dEq
  rw [if_pos (D.okEq_pl h h hd)]
  have z : d.eqv d = true := (D.eqv_iff h h).mpr rfl
  rw [z]
theorem dNe_same {d : D} (h : d.pl = true) (hd : d.depth ≤ 64) : dNe d d = some (.bl false, false) := by
  unfold dNe
  rw [if_pos (D.okEq_pl h h hd)]
  have z : d.eqv d = true := (D.eqv_iff h h).mpr rfl
  rw [z]
  rfl
theorem dEq_pl {d e : D} {p : Prop} [Decidable p] (h : d.pl = true) (h' : e.pl = true) (hd : d.depth ≤ 64) (hp : d = e ↔ p) : dEq d e = some (.bl (decide p), false) := by
  unfold dEq
  rw [if_pos (D.okEq_pl h h' hd)]
  have z : d.eqv e = decide p := by
    have q : d.eqv e = true ↔ p := (D.eqv_iff h h').trans hp
    by_cases r : p
    · rw [decide_eq_true r]
      exact q.mpr r
    · rw [decide_eq_false r]
      exact Bool.eq_false_iff.mpr fun y => r (q.mp y)
  rw [z]
theorem dNe_pl {d e : D} {p : Prop} [Decidable p] (h : d.pl = true) (h' : e.pl = true) (hd : d.depth ≤ 64) (hp : d = e ↔ p) : dNe d e = some (.bl (!decide p), false) := by
  have z := dEq_pl h h' hd hp
  unfold dEq at z
  unfold dNe
  rw [if_pos (D.okEq_pl h h' hd)] at z ⊢
  have z2 := D.bl.inj (congrArg (·.1) (Option.some.inj z))
  rw [z2]
/-! rows of whole numbers -/
theorem pls_int : ∀ xs : List Int, D.pls (dI xs) = true
  | [] => rfl
  | _ :: xs => pls_int xs
theorem depths_int : ∀ xs : List Int, D.depths (dI xs) = 0
  | [] => rfl
  | _ :: xs => by
    show max 0 (D.depths (dI xs)) = 0
    rw [depths_int xs]
    rfl
theorem pl_tI (xs : List Int) : (iT xs).pl = true := pls_int xs
theorem pl_lI (xs : List Int) : (iL xs).pl = true := pls_int xs
theorem depth_tI (xs : List Int) : (iT xs).depth = 1 := by
  show D.depths (dI xs) + 1 = 1
  rw [depths_int]
theorem depth_lI (xs : List Int) : (iL xs).depth = 1 := by
  show D.depths (dI xs) + 1 = 1
  rw [depths_int]
theorem dI_inj {a b : List Int} : dI a = dI b ↔ a = b := ⟨fun h => (List.map_inj_right fun x y h => D.int.inj h).mp h, fun h => by rw [h]⟩
theorem pls_all {ds : List D} (h : ∀ d ∈ ds, d.pl = true) : D.pls ds = true := by
  induction ds with
  | nil => rfl
  | cons d ds ih =>
    rw [D.pls, h d (List.mem_cons_self ..), ih fun x hx => h x (List.mem_cons_of_mem _ hx)]
    rfl
theorem depths_le {ds : List D} {n : Nat} (h : ∀ d ∈ ds, d.depth ≤ n) : D.depths ds ≤ n := by
  induction ds with
  | nil => exact Nat.zero_le _
  | cons d ds ih =>
    rw [D.depths]
    exact Nat.max_le.mpr ⟨h d (List.mem_cons_self ..), ih fun x hx => h x (List.mem_cons_of_mem _ hx)⟩
theorem w_neT {a b : List Int} : dNe (iT a) (iT b) = some (.bl (!decide (a = b)), false) := dNe_pl (pl_tI a) (pl_tI b) (by rw [depth_tI]; decide) ⟨fun h => dI_inj.mp (D.tup.inj h), fun h => by rw [h]⟩
theorem w_eqT {a b : List Int} : dEq (iT a) (iT b) = some (.bl (decide (a = b)), false) := dEq_pl (pl_tI a) (pl_tI b) (by rw [depth_tI]; decide) ⟨fun h => dI_inj.mp (D.tup.inj h), fun h => by rw [h]⟩
theorem w_neL {a b : List Int} : dNe (iL a) (iL b) = some (.bl (!decide (a = b)), false) := dNe_pl (pl_lI a) (pl_lI b) (by rw [depth_lI]; decide) ⟨fun h => dI_inj.mp (D.lst.inj h), fun h => by rw [h]⟩
theorem w_eqL {a b : List Int} : dEq (iL a) (iL b) = some (.bl (decide (a = b)), false) := dEq_pl (pl_lI a) (pl_lI b) (by rw [depth_lI]; decide) ⟨fun h => dI_inj.mp (D.lst.inj h), fun h => by rw [h]⟩
theorem has_int {c : Int} : ∀ {xs : List Int}, (D.int c).has (dI xs) = decide (c ∈ xs)
  | [] => rfl
  | x :: xs => by
    show ((D.int x).eqv (.int c) || (D.int c).has (dI xs)) = _
    rw [has_int]
    have z : (D.int x).eqv (.int c) = decide (c = x) := by
      by_cases h : c = x
      · rw [decide_eq_true h]
        exact (D.eqv_iff (d := .int x) (e := .int c) rfl rfl).mpr (by rw [h])
      · rw [decide_eq_false h]
        exact Bool.eq_false_iff.mpr fun y => h (D.int.inj ((D.eqv_iff (d := .int x) (e := .int c) rfl rfl).mp y)).symm
    rw [z]
    simp only [List.mem_cons, Bool.decide_or]
theorem okIn_int {c : Int} {xs : List Int} : (D.int c).okIn (dI xs) = true := by
  unfold D.okIn
  rw [D.pls_pure (pls_int xs), depths_int]
  rfl
theorem w_inL {c : Int} {xs : List Int} : dIn false (.int c) (iL xs) = some (.bl (decide (c ∈ xs)), false) := by
  show (if (D.int c).okIn (dI xs) then some (D.bl ((D.int c).has (dI xs)), false) else none) = _
  rw [if_pos okIn_int, has_int]
theorem w_inT {c : Int} {xs : List Int} : dIn false (.int c) (iT xs) = some (.bl (decide (c ∈ xs)), false) := by
  show (if (D.int c).okIn (dI xs) then some (D.bl ((D.int c).has (dI xs)), false) else none) = _
  rw [if_pos okIn_int, has_int]
theorem w_niL {c : Int} {xs : List Int} : dIn true (.int c) (iL xs) = some (.bl (!decide (c ∈ xs)), false) := by
  show (if (D.int c).okIn (dI xs) then some (D.bl (!(D.int c).has (dI xs)), false) else none) = _
  rw [if_pos okIn_int, has_int]
theorem w_niT {c : Int} {xs : List Int} : dIn true (.int c) (iT xs) = some (.bl (!decide (c ∈ xs)), false) := by
  show (if (D.int c).okIn (dI xs) then some (D.bl (!(D.int c).has (dI xs)), false) else none) = _
  rw [if_pos okIn_int, has_int]
theorem ixOf_int {c : Int} : ∀ {xs : List Int}, c ∈ xs → (D.int c).ixOf (dI xs) = some (xs.idxOf c)
  | x :: xs, h => by
    show (if (D.int x).eqv (.int c) then some 0 else ((D.int c).ixOf (dI xs)).map (· + 1)) = _
    by_cases e : x = c
    · have z : (D.int x).eqv (.int c) = true := (D.eqv_iff (d := .int x) (e := .int c) rfl rfl).mpr (by rw [e])
      rw [if_pos z, e, List.idxOf_cons_self]
    · have z : ¬ (D.int x).eqv (.int c) = true := fun y => e (D.int.inj ((D.eqv_iff (d := .int x) (e := .int c) rfl rfl).mp y))
      have hm : c ∈ xs := by
        rcases List.mem_cons.mp h with h | h
        · exact absurd h.symm e
        · exact h
      rw [if_neg z, ixOf_int hm, List.idxOf_cons]
      have z2 : (x == c) = false := beq_eq_false_iff_ne.mpr e
      rw [z2]
      rfl
theorem w_index {c : Int} {xs : List Int} (h : c ∈ xs) : dIndex (iL xs) (.int c) = some (.int (xs.idxOf c : Nat), false) := by
  show (if ((D.int c).pure && D.pures (dI xs) && decide (D.depths (dI xs) < 64) && decide ((D.int c).depth ≤ 64)) = true then ((D.int c).ixOf (dI xs)).map fun j => (D.int (j : Nat), false) else none) = _
  rw [D.pls_pure (pls_int xs), depths_int, if_pos (by rfl), ixOf_int h]
  rfl
theorem le_int (a b : Int) : D.le (.int a) (.int b) = leI a b := congrFun (congrFun (PySem.W.dataLe_int (fun b : Int => b)) a) b
theorem le_tup (a b : List Int) : D.le (iT a) (iT b) = decide (a ≤ b) := by
  show (!PySem.W.dataLt (D.py (iT b)) (D.py (iT a))) = _
  have e : ∀ a : List Int, D.py (iT a) = .tuple (a.map .int) := fun a => by
    rw [D.py, pys_map, List.map_map]
    rfl
  rw [e, e, PySem.W.dataLt_tuple]
  show (!PySem.W.rowLt (b.map .int) (a.map .int)) = _
  rw [PySem.W.dataLt_ints]
  by_cases h : b < a
  · have h' : ¬ a ≤ b := fun r => List.not_lt.mpr r h
    simp [h, h']
  · have h' : a ≤ b := List.not_lt.mp h
    simp [h, h']
theorem sort_int {xs : List Int} : sortD (dI xs) = some (iL (xs.mergeSort leI), true) := by
  unfold sortD
  have hc : sortC (dI xs) = true := by
    unfold sortC
    have h1 : D.alikeB (dI xs) = true := List.all_eq_true.mpr fun d hd => List.all_eq_true.mpr fun e he => by
      obtain ⟨x, _, rfl⟩ := List.mem_map.mp hd
      obtain ⟨y, _, rfl⟩ := List.mem_map.mp he
      rfl
    have h2 : D.sortB (dI xs) = true := by
      unfold D.sortB
      rw [Bool.or_eq_true]
      refine .inr (List.all_eq_true.mpr fun d hd => ?_)
      obtain ⟨x, _, rfl⟩ := List.mem_map.mp hd
      rfl
    have h3 : ((dI xs).all fun d => d.pure && decide (d.depth ≤ 64)) = true := List.all_eq_true.mpr fun d hd => by
      obtain ⟨x, _, rfl⟩ := List.mem_map.mp hd
      rfl
    rw [h1, h2, h3]
    simp
  rw [if_pos hc]
  have e := List.map_mergeSort (r := leI) (s := D.le) (f := D.int) (l := xs) (fun a _ b _ => (le_int a b).symm)
  rw [← e]
theorem w_sortL {xs : List Int} : dSorted [iL xs] = some (iL (xs.mergeSort leI), true) := sort_int
theorem w_sortT {xs : List Int} : dSorted [iT xs] = some (iL (xs.mergeSort leI), true) := sort_int
/-- rows that rise already -/
theorem sort_rows {xs : List (List Int)} (h : xs.Pairwise fun a b => a < b) (hn : ∀ x ∈ xs, x ≠ [] ∨ xs.length < 2) : sortD (xs.map iT) = some (.lst (xs.map iT), true) := by
  unfold sortD
  have hc : sortC (xs.map iT) = true := by
    unfold sortC
    by_cases hl : xs.length < 2
    · rw [List.length_map, decide_eq_true hl]
      rfl
    have h1 : D.alikeB (xs.map iT) = true := List.all_eq_true.mpr fun d hd => List.all_eq_true.mpr fun e he => by
      obtain ⟨x, _, rfl⟩ := List.mem_map.mp hd
      obtain ⟨y, _, rfl⟩ := List.mem_map.mp he
      show PySem.W.alike (.tuple (D.pys (dI x))) (.tuple (D.pys (dI y))) = true
      rw [PySem.W.alike]
      have key : ∀ x y : List Int, PySem.W.alikeAll (D.pys (dI x)) (D.pys (dI y)) = true := fun x => by
        induction x with
        | nil => exact fun y => by simp [D.pys, PySem.W.alikeAll]
        | cons a x ih =>
          intro y
          cases y with
          | nil => simp [D.pys, PySem.W.alikeAll]
          | cons b y =>
            show (PySem.W.alike (.int a) (.int b) && PySem.W.alikeAll (D.pys (dI x)) (D.pys (dI y))) = true
            rw [ih y]
            rfl
      exact key x y
    have h2 : D.sortB (xs.map iT) = true := by
      unfold D.sortB
      rw [Bool.or_eq_true]
      refine .inl (List.all_eq_true.mpr fun d hd => ?_)
      obtain ⟨x, hx, rfl⟩ := List.mem_map.mp hd
      rcases hn x hx with z | z
      · cases x with
        | nil => exact absurd rfl z
        | cons a x => rfl
      · exact absurd z hl
    have h3 : ((xs.map iT).all fun d => d.pure && decide (d.depth ≤ 64)) = true := List.all_eq_true.mpr fun d hd => by
      obtain ⟨x, _, rfl⟩ := List.mem_map.mp hd
      rw [D.pl_pure (pl_tI x), depth_tI]
      rfl
    rw [h1, h2, h3]
    simp
  rw [if_pos hc]
  have e : (xs.map iT).mergeSort D.le = xs.map iT := List.mergeSort_of_pairwise (List.pairwise_map.mpr (h.imp fun {a b} h => by
    show D.le (iT a) (iT b) = true
    rw [le_tup]
    exact decide_eq_true (List.le_of_lt h)))
  rw [e]
/-! slices -/
theorem cut_take {α : Type} (xs : List α) (k : Nat) : cutD xs none (some (k : Int)) = xs.take k := by
  unfold cutD
  rw [HT.sIx_none, HT.sIx_nat, List.drop_zero, Nat.sub_zero]
  by_cases h : k ≤ xs.length
  · rw [Nat.min_eq_left h]
  · rw [Nat.min_eq_right (by omega), List.take_length, List.take_of_length_le (by omega)]
theorem cut_drop {α : Type} (xs : List α) (k : Nat) : cutD xs (some (k : Int)) none = xs.drop k := by
  unfold cutD
  rw [HT.sIx_none, HT.sIx_nat]
  by_cases h : k ≤ xs.length
  · rw [Nat.min_eq_left h, List.take_of_length_le (by rw [List.length_drop]; exact Nat.le_refl _)]
  · rw [Nat.min_eq_right (by omega), List.drop_eq_nil_of_le (Nat.le_refl _), List.drop_eq_nil_of_le (by omega), List.take_nil]
theorem atI_nat' {xs : List D} {j : Nat} : atI xs (j : Int) = xs[j]? := by
  unfold atI ixN
  rw [if_pos (by omega)]
  by_cases h : j < xs.length
  · rw [if_pos (by omega), Int.toNat_natCast]
    rfl
  · rw [if_neg (by omega), List.getElem?_eq_none (by omega)]
    rfl
theorem asInts_int : ∀ xs : List Int, asInts (dI xs) = some xs
  | [] => rfl
  | x :: xs => by
    show (asInts (dI xs)).map _ = _
    rw [asInts_int xs]
    rfl

/-! step by step -/
theorem run_fn {N : Nat} {body : ES} {ds : List D} {M M' : List MO} {r : D × Bool} {e : Env} (h : body (ds.map .fz ++ List.replicate (N - ds.length) .no) M = some (.rt r, e, M')) : mkFn N body ds M = some (r, M') := by
  unfold mkFn
  rw [h]
theorem run_fn0 {N : Nat} {body : ES} {ds : List D} {M M' : List MO} {e : Env} (h : body (ds.map .fz ++ List.replicate (N - ds.length) .no) M = some (.nx, e, M')) : mkFn N body ds M = some ((.non, false), M') := by
  unfold mkFn
  rw [h]
theorem run_seq {f g : ES} {env e1 : Env} {M M1 : List MO} {r : Fl × Env × List MO} (h1 : f env M = some (.nx, e1, M1)) (h2 : g e1 M1 = some r) : sSeq f g env M = some r := by
  unfold sSeq
  rw [h1]
  exact h2
theorem run_set {i : Nat} {f : EE} {env : Env} {M M1 : List MO} {r : D × Bool} (h : f env M = some (r, M1)) (hi : i < env.length) : sSet i f env M = some (.nx, putSl env i r, M1) := by
  unfold sSet
  rw [h]
  exact if_pos hi
theorem run_comp {vs : List Nat} {it : EI} {tg : Tg} {cond : EB} {elt : EP} {env : Env} {M M1 M2 : List MO} {ds ys : List D} (h1 : it env M = some (ds, M1)) (h2 : compL (wipeE env vs) tg cond elt ds M1 = some (ys, M2)) (hl : ys.length ≤ LIM) : eComp vs it tg cond elt env M = some ((.lst ys, true), M2) := by
  unfold eComp
  rw [h1]
  dsimp only
  rw [h2]
  exact if_pos hl
theorem run_for {it : EI} {t : Tg} {body : ES} {env : Env} {M M1 : List MO} {ds : List D} {r : Fl × Env × List MO} (h1 : it env M = some (ds, M1)) (h2 : forL env t body ds env M1 = some r) : sFor it t body env M = some r := by
  unfold sFor
  rw [h1]
  exact h2
theorem v_sApp' {env : Env} {M : List MO} {i : Nat} {f : EP} : sApp i f env M = match env[i]? with
  | some (.own (.lst ds)) => match f env M with
    | some (d, M1) => if ds.length < LIM then some (.nx, env.set i (.own (.lst (ds ++ [d]))), M1) else none
    | none => none
  | _ => none := rfl

/-! what holds behind a statement -/
def Post (f : ES) (env : Env) (M : List MO) (Q : Fl → Env → List MO → Prop) : Prop := ∃ fl e M', f env M = some (fl, e, M') ∧ Q fl e M'
theorem Post.of {f : ES} {env e : Env} {M M' : List MO} {fl : Fl} {Q : Fl → Env → List MO → Prop} (h : f env M = some (fl, e, M')) (q : Q fl e M') : Post f env M Q := ⟨fl, e, M', h, q⟩
theorem Post.imp {f : ES} {env : Env} {M : List MO} {Q Q' : Fl → Env → List MO → Prop} (h : Post f env M Q) (i : ∀ fl e M', Q fl e M' → Q' fl e M') : Post f env M Q' := by
  obtain ⟨fl, e, M', a, b⟩ := h
  exact ⟨fl, e, M', a, i _ _ _ b⟩
theorem Post.seq {f g : ES} {env : Env} {M : List MO} {Q : Fl → Env → List MO → Prop} (h : Post f env M fun fl e M' => match fl with
    | .nx => Post g e M' Q
    | fl => Q fl e M') : Post (sSeq f g) env M Q := by
  obtain ⟨fl, e, M', a, b⟩ := h
  cases fl with
  | nx =>
    obtain ⟨fl2, e2, M2, c, d⟩ := b
    refine ⟨fl2, e2, M2, ?_, d⟩
    unfold sSeq
    rw [a]
    exact c
  | _ =>
    refine ⟨_, e, M', ?_, b⟩
    unfold sSeq
    rw [a]
/-- a statement that goes on -/
theorem Post.then {f g : ES} {env e1 : Env} {M M1 : List MO} {Q : Fl → Env → List MO → Prop} (h1 : f env M = some (.nx, e1, M1)) (h2 : Post g e1 M1 Q) : Post (sSeq f g) env M Q := Post.seq (Post.of h1 h2)
theorem Post.ifT {c : EB} {f g : ES} {env : Env} {M M1 : List MO} {Q : Fl → Env → List MO → Prop} (h : c env M = some (true, M1)) (q : Post f env M1 Q) : Post (sIf c f g) env M Q := by
  obtain ⟨fl, e, M', a, b⟩ := q
  refine ⟨fl, e, M', ?_, b⟩
  unfold sIf
  rw [h]
  exact a
theorem Post.ifF {c : EB} {f g : ES} {env : Env} {M M1 : List MO} {Q : Fl → Env → List MO → Prop} (h : c env M = some (false, M1)) (q : Post g env M1 Q) : Post (sIf c f g) env M Q := by
  obtain ⟨fl, e, M', a, b⟩ := q
  refine ⟨fl, e, M', ?_, b⟩
  unfold sIf
  rw [h]
  exact a
/-- what a turn has to leave -/
def endL (I : List D → Env → List MO → Prop) (Q : Fl → Env → List MO → Prop) (e0 : Env) (r : List D) (fl : Fl) (e2 : Env) (M2 : List MO) : Prop := match fl with
  | .nx => I r (keepE e0 e2) M2
  | .ct => I r (keepE e0 e2) M2
  | .bk => Q .nx (keepE e0 e2) M2
  | .rt v => Q (.rt v) e2 M2
theorem Post.loopL {e0 : Env} {t : Tg} {body : ES} {Q : Fl → Env → List MO → Prop} (I : List D → Env → List MO → Prop) (hs : ∀ d r env M, I (d :: r) env M → ∃ e1, t.bind d env = some e1 ∧ Post body e1 M (endL I Q e0 r)) (hq : ∀ env M, I [] env M → Q .nx env M) : ∀ {ds : List D} {env : Env} {M : List MO}, I ds env M → ∃ fl e M', forL e0 t body ds env M = some (fl, e, M') ∧ Q fl e M'
  | [], env, M, h => ⟨.nx, env, M, rfl, hq _ _ h⟩
  | d :: ds, env, M, h => by
    obtain ⟨e1, h1, fl, e2, M2, h2, h3⟩ := hs d ds env M h
    cases fl with
    | nx =>
      obtain ⟨fl, e, M', a, b⟩ := Post.loopL I hs hq (ds := ds) h3
      refine ⟨fl, e, M', ?_, b⟩
      unfold forL
      rw [h1]
      dsimp only
      rw [h2]
      exact a
    | ct =>
      obtain ⟨fl, e, M', a, b⟩ := Post.loopL I hs hq (ds := ds) h3
      refine ⟨fl, e, M', ?_, b⟩
      unfold forL
      rw [h1]
      dsimp only
      rw [h2]
      exact a
    | bk =>
      refine ⟨.nx, keepE e0 e2, M2, ?_, h3⟩
      unfold forL
      rw [h1]
      dsimp only
      rw [h2]
    | rt v =>
      refine ⟨.rt v, e2, M2, ?_, h3⟩
      unfold forL
      rw [h1]
      dsimp only
      rw [h2]
/-- a loop by what stays true -/
theorem Post.loop {it : EI} {t : Tg} {body : ES} {env : Env} {M M1 : List MO} {ds : List D} {Q : Fl → Env → List MO → Prop} (I : List D → Env → List MO → Prop) (h1 : it env M = some (ds, M1)) (h0 : I ds env M1) (hs : ∀ d r e M, I (d :: r) e M → ∃ e1, t.bind d e = some e1 ∧ Post body e1 M (endL I Q env r)) (hq : ∀ e M, I [] e M → Q .nx e M) : Post (sFor it t body) env M Q := by
  obtain ⟨fl, e, M', a, b⟩ := Post.loopL (e0 := env) (t := t) (body := body) (Q := Q) I hs hq h0
  refine ⟨fl, e, M', ?_, b⟩
  unfold sFor
  rw [h1]
  exact a
theorem Post.fn {N : Nat} {body : ES} {ds : List D} {M : List MO} {T : D × Bool → List MO → Prop} (h : Post body (ds.map .fz ++ List.replicate (N - ds.length) .no) M fun fl _ M' => match fl with
    | .rt r => T r M'
    | .nx => T (.non, false) M'
    | _ => False) : ∃ r M', mkFn N body ds M = some (r, M') ∧ T r M' := by
  obtain ⟨fl, e, M', a, b⟩ := h
  cases fl with
  | nx => exact ⟨_, M', by unfold mkFn; rw [a], b⟩
  | rt r => exact ⟨r, M', by unfold mkFn; rw [a], b⟩
  | ct => exact b.elim
  | bk => exact b.elim

theorem enumD_map {α : Type} (g : α → D) (xs : List α) : enumD (xs.map g) = (xs.mapIdx fun i x => (i, x)).map fun p => .tup [.int (p.1 : Nat), g p.2] := by
  unfold enumD
  apply List.ext_getElem?
  intro i
  rw [List.getElem?_mapIdx, List.getElem?_map, List.getElem?_map, List.getElem?_mapIdx]
  cases xs[i]? <;> rfl
theorem mem_mapIdx_pair {α : Type} {xs : List α} {p : Nat × α} (h : p ∈ xs.mapIdx fun i x => (i, x)) : xs[p.1]? = some p.2 := by
  obtain ⟨i, hi, e⟩ := List.mem_mapIdx.mp h
  subst e
  exact List.getElem?_eq_getElem hi
theorem pl_rows (xs : List (List Int)) : (D.lst (xs.map iT)).pl = true := pls_all fun d hd => by
  obtain ⟨x, _, rfl⟩ := List.mem_map.mp hd
  exact pl_tI x
theorem depth_rows (xs : List (List Int)) : (D.lst (xs.map iT)).depth ≤ 64 := by
  show D.depths (xs.map iT) + 1 ≤ 64
  have := depths_le (ds := xs.map iT) (n := 1) fun d hd => by
    obtain ⟨x, _, rfl⟩ := List.mem_map.mp hd
    rw [depth_tI]
    exact Nat.le_refl _
  omega
theorem pl_rowsT (xs : List (List Int)) : (D.tup (xs.map iT)).pl = true := pl_rows xs
theorem depth_rowsT (xs : List (List Int)) : (D.tup (xs.map iT)).depth ≤ 64 := depth_rows xs
theorem iT_inj {a b : List Int} : iT a = iT b ↔ a = b := ⟨fun h => dI_inj.mp (D.tup.inj h), fun h => by rw [h]⟩
end R

set_option Elab.async false
set_option linter.all false
set_option maxRecDepth 100000
set_option maxHeartbeats 2000000
/-! R23: how a law ends -/
namespace R
open PySem PySem.Spec PyProof.Rows L2
def HasF (P : Program) (w : World) (K : PySem.W.Frag) (mg : Str → Option Value) (base : Heap) (k : Nat) (x : Str) (e : R.Entry) : Prop :=
  ∃ (f : Addr) (fd : FuncData) (ps : List Str), FnOk P w K mg base CX0 k f fd ps (spF K ps.length e.F) ∧ mg x = some (.ref f) ∧ PySem.W.keepIn K (.ref f) = true ∧ Binds K fd ps [] ∧ ps.length = e.ar
def HasC (K : PySem.W.Frag) (mg : Str → Option Value) (x : Str) (d : D) : Prop := ∃ v u, mg x = some u ∧ RelV v u ∧ ∀ W : Wd, RepW K W v d
section
variable {P : Program} {w : World} {K : PySem.W.Frag} {mg : Str → Option Value} {base : Heap} {k j : Nat} {x : Str}
theorem HasF.mono {e : R.Entry} (h : HasF P w K mg base k x e) (hk : k ≤ j) : HasF P w K mg base j x e := by
  obtain ⟨f, fd, ps, a, b⟩ := h
  exact ⟨f, fd, ps, a.mono hk, b⟩
/-- the same def, its value taken as a living thing or not -/
theorem HasF.lv {F : Fn} {n : Nat} {a b : Bool} (h : HasF P w K mg base k x ⟨F, n, a⟩) : HasF P w K mg base k x ⟨F, n, b⟩ := h
theorem all_nil {α : Type} {T : Str → α → Prop} : ∀ y e, ([] : List (Str × α)).lookup y = some e → T y e := fun y e h => (by cases h)
theorem all_cons {α : Type} {T : Str → α → Prop} {x : Str} {a : α} {l : List (Str × α)} (h : T x a) (r : ∀ y e, l.lookup y = some e → T y e) : ∀ y e, ((x, a) :: l).lookup y = some e → T y e := fun y e q => by
  rw [List.lookup_cons] at q
  split at q
  · rename_i z
    cases q
    rw [eq_of_beq z]
    exact h
  · exact r y e q
theorem hasC_int {i : Int} {t : Tok} (h : mg x = some (.int i t)) : HasC K mg x (.int i) := ⟨.int i, _, h, ⟨t, rfl⟩, fun _ => .int i⟩
theorem hasC_str {s : Str} {t : Tok} (h : mg x = some (.str s t)) (ok : PyData.strOk s = true) : HasC K mg x (.str s) := ⟨.str s, _, h, ⟨t, rfl⟩, fun _ => .str s ok⟩
theorem mods {cst : List (Str × D)} {fns : List (Str × R.Entry)} (b : ∀ x ∈ bNames, mg x = none) (c : ∀ x d, cst.lookup x = some d → HasC K mg x d) (f : ∀ x e, fns.lookup x = some e → HasF P w K mg base k x e) : Mods P w K mg base cst fns k := ⟨b, c, f⟩
/-- a def that the text has, by its compiled body -/
theorem has_def {st : Stmt} {f : Addr} {fd : FuncData} {N ps : List Str} {cst : List (Str × D)} {fns : List (Str × R.Entry)} {mu : List Nat} {body : ES} (F : L2.Fun K x x st f fd) (S : FnScope N ps (defScope st)) (b : Binds K fd ps []) (g : mg x = some (.ref f)) (T : Mods P w K mg base cst fns k) (hb : cDef N fns cst mu st = some body) :
    HasF P w K mg base (k + 1) x ⟨mkFn N.length body, ps.length, false⟩ := ⟨f, fd, ps, def_ok F S T hb, g, F.kp, b, rfl⟩
/-- nothing is promised -/
theorem has_none {st : Stmt} {f : Addr} {fd : FuncData} {N ps : List Str} (F : L2.Fun K x x st f fd) (S : FnScope N ps (defScope st)) (b : Binds K fd ps []) (g : mg x = some (.ref f)) : HasF P w K mg base (k + 1) x ⟨fun _ _ => none, ps.length, false⟩ := by
  refine ⟨f, fd, ps, F.ok S (fun vs H Q E h => h.1) (fun cdv A outer s H vs Q E hr h => ?_), g, F.kp, b, rfl⟩
  obtain ⟨_, W, M, ds, r, M', _, _, e, _⟩ := h
  cases e
/-- what the law's own def is asked for -/
def spTop (K : PySem.W.Frag) : Sp := fun vs H Q _ => ∃ (a : Addr) (ns : List Int), vs = [.ref a] ∧ SqL K H a (ns.map V.int) ∧ ns.length ≤ 63 ∧ ∀ H', Q (.bl true) H'
theorem reps_dI {G : Hp} {al : List Addr} (ns : List Int) : Reps K G al (ns.map V.int) (dI ns) := Reps.ofInts ns
theorem top_ok {F : Fn} {f : Addr} {fd : FuncData} (h : FnOk P w K mg base CX0 k f fd ["script"] (spF K 1 F)) (run : ∀ ns : List Int, ns.length ≤ 63 → ∃ M', F [.scr (dI ns)] [] = some ((.bl true, false), M')) : FnOk P w K mg base CX0 k f fd ["script"] (spTop K) :=
  h.imp fun vs H Q E ⟨a, ns, e, hs, hl, q⟩ => by
    subst e
    obtain ⟨M', hr⟩ := run ns hl
    refine ⟨rfl, ⟨H, fun _ => none, fun _ => none, []⟩, [], [.scr (dI ns)], _, M', ⟨Le.refl _, fun a o h => (by cases h), fun a o h => (by cases h), fun _ _ => ⟨rfl, rfl⟩, fun _ _ => rfl, fun a h => (by cases h), List.nodup_nil, rfl, fun n a m h => (by simp at h)⟩, .cons (.scr hs (reps_dI ns)) .nil, hr, fun v H' W' _ _ rr => ?_⟩
    cases rr with
    | old r =>
      cases r
      exact q H'
end
end R

set_option Elab.async false
set_option linter.all false
set_option maxRecDepth 100000
set_option maxHeartbeats 2000000
/-! R26: things that stand for data -/
namespace R
open PySem PySem.Spec L2
section
variable {d e : D} {n m : Nat} {xs ys : List D}
@[simp] theorem ok_non : D.okd .non n = true := by rw [D.okd]
@[simp] theorem ok_bl {b : Bool} : D.okd (.bl b) n = true := by rw [D.okd]
@[simp] theorem ok_intD {b : Int} : D.okd (.int b) n = true := by rw [D.okd]
@[simp] theorem ok_str {b : Str} : D.okd (.str b) n = true := by rw [D.okd]
@[simp] theorem ok_tup : D.okd (.tup xs) (n + 1) = D.okds xs n := by rw [D.okd]; simp
@[simp] theorem ok_lst : D.okd (.lst xs) (n + 1) = D.okds xs n := by rw [D.okd]; simp
@[simp] theorem oks_nil : D.okds [] n = true := by rw [D.okds]
@[simp] theorem oks_cons : D.okds (d :: xs) n = (D.okd d n && D.okds xs n) := by rw [D.okds]
@[simp] theorem oks_app : D.okds (xs ++ ys) n = (D.okds xs n && D.okds ys n) := by
  induction xs with
  | nil => simp
  | cons x xs ih => simp [ih, Bool.and_assoc]
theorem oks_all : D.okds xs n = true ↔ ∀ d ∈ xs, D.okd d n = true := by
  induction xs with
  | nil => simp
  | cons x xs ih => simp [ih]
@[simp] theorem oks_map {α : Type} {f : α → D} {l : List α} : (D.okds (l.map f) n = true) = ∀ a ∈ l, D.okd (f a) n = true := by
  rw [oks_all]
  simp
theorem oks_sub (h : D.okds xs n = true) (s : ∀ d ∈ ys, d ∈ xs) : D.okds ys n = true := oks_all.mpr fun d hd => oks_all.mp h d (s d hd)
mutual
theorem ok_mono : ∀ {d : D} {n m : Nat}, n ≤ m → d.okd n = true → d.okd m = true
  | .non, n, m, h, _ => by simp
  | .bl _, n, m, h, _ => by simp
  | .int _, n, m, h, _ => ok_intD
  | .str _, n, m, h, _ => by simp
  | .tup xs, n, m, h, q => by
    rw [D.okd, Bool.and_eq_true, decide_eq_true_eq] at q ⊢
    exact ⟨by omega, oks_mono (by omega) q.2⟩
  | .lst xs, n, m, h, q => by
    rw [D.okd, Bool.and_eq_true, decide_eq_true_eq] at q ⊢
    exact ⟨by omega, oks_mono (by omega) q.2⟩
  | .scr _, n, m, _, h => by cases h
  | .dct _ _, n, m, _, h => by cases h
  | .obj _, n, m, _, h => by cases h
theorem oks_mono : ∀ {ds : List D} {n m : Nat}, n ≤ m → D.okds ds n = true → D.okds ds m = true
  | [], n, m, _, _ => by simp
  | d :: ds, n, m, h, q => by
    rw [D.okds, Bool.and_eq_true] at q ⊢
    exact ⟨ok_mono h q.1, oks_mono h q.2⟩
end
end
/-! ### the same data -/
/-- alike, told by parts -/
def D.eqs (xs ys : List D) : Bool := PyData.eqvAll (D.pys xs) (D.pys ys)
section
variable {d e : D} {xs ys : List D}
@[simp] theorem q_nn : D.eqv .non .non = true := id rfl
@[simp] theorem q_ii {a b : Int} : D.eqv (.int a) (.int b) = decide (a = b) := by
  unfold D.eqv D.py PyData.eqv
  by_cases h : a = b <;> simp [h]
@[simp] theorem q_ss {a b : Str} : D.eqv (.str a) (.str b) = decide (a = b) := by
  unfold D.eqv D.py PyData.eqv
  by_cases h : a = b <;> simp [h]
@[simp] theorem q_bb {a b : Bool} : D.eqv (.bl a) (.bl b) = decide (a = b) := by
  unfold D.eqv D.py PyData.eqv
  by_cases h : a = b <;> simp [h]
@[simp] theorem q_tt : D.eqv (.tup xs) (.tup ys) = D.eqs xs ys := by
  unfold D.eqv D.eqs
  rw [D.py, D.py, PyData.eqv]
@[simp] theorem q_ll : D.eqv (.lst xs) (.lst ys) = D.eqs xs ys := by
  unfold D.eqv D.eqs
  rw [D.py, D.py, PyData.eqv]
@[simp] theorem qs_nn : D.eqs [] [] = true := id rfl
@[simp] theorem qs_nc : D.eqs [] (d :: xs) = false := id rfl
@[simp] theorem qs_cn : D.eqs (d :: xs) [] = false := id rfl
@[simp] theorem qs_cc : D.eqs (d :: xs) (e :: ys) = (D.eqv d e && D.eqs xs ys) := id rfl
@[simp] theorem q_ni {a : Int} : D.eqv .non (.int a) = false := id rfl
@[simp] theorem q_in {a : Int} : D.eqv (.int a) .non = false := id rfl
@[simp] theorem q_ns {a : Str} : D.eqv .non (.str a) = false := id rfl
@[simp] theorem q_sn {a : Str} : D.eqv (.str a) .non = false := id rfl
@[simp] theorem q_nb {a : Bool} : D.eqv .non (.bl a) = false := id rfl
@[simp] theorem q_bn {a : Bool} : D.eqv (.bl a) .non = false := id rfl
@[simp] theorem q_nt : D.eqv .non (.tup xs) = false := id rfl
@[simp] theorem q_tn : D.eqv (.tup xs) .non = false := id rfl
@[simp] theorem q_nl : D.eqv .non (.lst xs) = false := id rfl
@[simp] theorem q_ln : D.eqv (.lst xs) .non = false := id rfl
@[simp] theorem q_si {a : Int} {s : Str} : D.eqv (.str s) (.int a) = false := id rfl
@[simp] theorem q_is {a : Int} {s : Str} : D.eqv (.int a) (.str s) = false := id rfl
@[simp] theorem q_ti {a : Int} : D.eqv (.tup xs) (.int a) = false := id rfl
@[simp] theorem q_it {a : Int} : D.eqv (.int a) (.tup xs) = false := id rfl
@[simp] theorem q_ts {a : Str} : D.eqv (.tup xs) (.str a) = false := id rfl
@[simp] theorem q_st {a : Str} : D.eqv (.str a) (.tup xs) = false := id rfl
theorem w_eq (h : d.okd 60 = true) (h' : e.okd 60 = true) : dEq d e = some (.bl (D.eqv d e), false) := by
  obtain ⟨a, b⟩ := D.okd_ok h
  obtain ⟨a', b'⟩ := D.okd_ok h'
  unfold dEq D.okEq
  rw [a, a', if_pos (by simp; omega)]
theorem w_ne (h : d.okd 60 = true) (h' : e.okd 60 = true) : dNe d e = some (.bl (!D.eqv d e), false) := by
  obtain ⟨a, b⟩ := D.okd_ok h
  obtain ⟨a', b'⟩ := D.okd_ok h'
  unfold dNe D.okEq
  rw [a, a', if_pos (by simp; omega)]
theorem w_inT' {neg : Bool} (h : d.okd 60 = true) (h' : D.okds xs 60 = true) : dIn neg d (.tup xs) = some (.bl (if neg then !d.has xs else d.has xs), false) := by
  obtain ⟨a, b⟩ := D.okd_ok h
  obtain ⟨a', b'⟩ := D.okds_ok h'
  show (if d.okIn xs = true then _ else none) = _
  unfold D.okIn
  rw [a, a', if_pos (by simp; omega)]
theorem w_inL' {neg : Bool} (h : d.okd 60 = true) (h' : D.okds xs 60 = true) : dIn neg d (.lst xs) = some (.bl (if neg then !d.has xs else d.has xs), false) := by
  obtain ⟨a, b⟩ := D.okd_ok h
  obtain ⟨a', b'⟩ := D.okds_ok h'
  have key : (if d.okIn xs = true then some (D.bl (if neg = true then !d.has xs else d.has xs), false) else none) = some (D.bl (if neg = true then !d.has xs else d.has xs), false) := by
    unfold D.okIn
    rw [a, a', if_pos (by simp; omega)]
  cases d <;> first | exact key | cases h
@[simp] theorem has_nil : D.has d [] = false := id rfl
@[simp] theorem has_cons : D.has d (e :: xs) = (D.eqv e d || D.has d xs) := id rfl
end
/-! ### isinstance -/
@[simp] theorem isi_int_n : dIsi "int" .non = some (.bl false, false) := id rfl
@[simp] theorem isi_int_b {b : Bool} : dIsi "int" (.bl b) = some (.bl true, false) := id rfl
@[simp] theorem isi_int_i {i : Int} : dIsi "int" (.int i) = some (.bl true, false) := id rfl
@[simp] theorem isi_int_s {s : Str} : dIsi "int" (.str s) = some (.bl false, false) := id rfl
@[simp] theorem isi_int_t {xs : List D} : dIsi "int" (.tup xs) = some (.bl false, false) := id rfl
@[simp] theorem isi_int_l {xs : List D} : dIsi "int" (.lst xs) = some (.bl false, false) := id rfl
@[simp] theorem isi_int_d {ks : List Key} {xs : List D} : dIsi "int" (.dct ks xs) = some (.bl false, false) := id rfl
@[simp] theorem isi_str_n : dIsi "str" .non = some (.bl false, false) := id rfl
@[simp] theorem isi_str_b {b : Bool} : dIsi "str" (.bl b) = some (.bl false, false) := id rfl
@[simp] theorem isi_str_i {i : Int} : dIsi "str" (.int i) = some (.bl false, false) := id rfl
@[simp] theorem isi_str_s {s : Str} : dIsi "str" (.str s) = some (.bl true, false) := id rfl
@[simp] theorem isi_str_t {xs : List D} : dIsi "str" (.tup xs) = some (.bl false, false) := id rfl
@[simp] theorem isi_str_l {xs : List D} : dIsi "str" (.lst xs) = some (.bl false, false) := id rfl
@[simp] theorem isi_str_d {ks : List Key} {xs : List D} : dIsi "str" (.dct ks xs) = some (.bl false, false) := id rfl
@[simp] theorem isi_bool_n : dIsi "bool" .non = some (.bl false, false) := id rfl
@[simp] theorem isi_bool_b {b : Bool} : dIsi "bool" (.bl b) = some (.bl true, false) := id rfl
@[simp] theorem isi_bool_i {i : Int} : dIsi "bool" (.int i) = some (.bl false, false) := id rfl
@[simp] theorem isi_bool_s {s : Str} : dIsi "bool" (.str s) = some (.bl false, false) := id rfl
@[simp] theorem isi_bool_t {xs : List D} : dIsi "bool" (.tup xs) = some (.bl false, false) := id rfl
@[simp] theorem isi_bool_l {xs : List D} : dIsi "bool" (.lst xs) = some (.bl false, false) := id rfl
@[simp] theorem isi_bool_d {ks : List Key} {xs : List D} : dIsi "bool" (.dct ks xs) = some (.bl false, false) := id rfl
@[simp] theorem isi_tuple_n : dIsi "tuple" .non = some (.bl false, false) := id rfl
@[simp] theorem isi_tuple_b {b : Bool} : dIsi "tuple" (.bl b) = some (.bl false, false) := id rfl
@[simp] theorem isi_tuple_i {i : Int} : dIsi "tuple" (.int i) = some (.bl false, false) := id rfl
@[simp] theorem isi_tuple_s {s : Str} : dIsi "tuple" (.str s) = some (.bl false, false) := id rfl
@[simp] theorem isi_tuple_t {xs : List D} : dIsi "tuple" (.tup xs) = some (.bl true, false) := id rfl
@[simp] theorem isi_tuple_l {xs : List D} : dIsi "tuple" (.lst xs) = some (.bl false, false) := id rfl
@[simp] theorem isi_tuple_d {ks : List Key} {xs : List D} : dIsi "tuple" (.dct ks xs) = some (.bl false, false) := id rfl
/-! ### encodings -/
class Enc (α : Type) where
  e : α → D
  eq : ∀ a b : α, D.eqv (e a) (e b) = true ↔ a = b
  dp : Nat
  ok : ∀ a, (e a).okd dp = true
instance : Enc Int := ⟨.int, fun a b => by simp, 0, fun a => ok_intD⟩
instance : Enc Str := ⟨.str, fun a b => by simp, 0, fun a => by simp⟩
instance : Enc Bool := ⟨.bl, fun a b => by simp, 0, fun a => by simp⟩
instance : Enc Nat := ⟨fun n => .int n, fun a b => by simp; omega, 0, fun a => ok_intD⟩
theorem eqs_map {α : Type} [Enc α] : ∀ {xs ys : List α}, D.eqs (xs.map Enc.e) (ys.map Enc.e) = true ↔ xs = ys
  | [], [] => by simp
  | [], y :: ys => by simp
  | x :: xs, [] => by simp
  | x :: xs, y :: ys => by simp [Enc.eq, eqs_map]
instance {α : Type} [Enc α] : Enc (List α) := ⟨fun xs => .tup (xs.map Enc.e), fun a b => by simp [eqs_map], Enc.dp α + 1, fun a => by simp [Enc.ok]⟩
instance {α β : Type} [Enc α] [Enc β] : Enc (α × β) := ⟨fun p => .tup [Enc.e p.1, Enc.e p.2], fun a b => by
    obtain ⟨a1, a2⟩ := a
    obtain ⟨b1, b2⟩ := b
    simp [Enc.eq], max (Enc.dp α) (Enc.dp β) + 1, fun a => by
    simp
    exact ⟨ok_mono (by omega) (Enc.ok _), ok_mono (by omega) (Enc.ok _)⟩⟩
/-- three, side by side -/
structure Tri (α β γ : Type) where
  a : α
  b : β
  c : γ
  deriving DecidableEq
instance {α β γ : Type} [Enc α] [Enc β] [Enc γ] : Enc (Tri α β γ) := ⟨fun p => .tup [Enc.e p.a, Enc.e p.b, Enc.e p.c], fun a b => by
    obtain ⟨a1, a2, a3⟩ := a
    obtain ⟨b1, b2, b3⟩ := b
    simp [Enc.eq], max (Enc.dp α) (max (Enc.dp β) (Enc.dp γ)) + 1, fun a => by
    simp
    exact ⟨ok_mono (by omega) (Enc.ok _), ok_mono (by omega) (Enc.ok _), ok_mono (by omega) (Enc.ok _)⟩⟩
/-- a list of Python's -/
def eL {α : Type} [Enc α] (xs : List α) : D := .lst (xs.map Enc.e)
section
variable {α β γ : Type} [Enc α] [Enc β] [Enc γ] {n : Nat}
@[simp] theorem dp_int : Enc.dp Int = 0 := id rfl
@[simp] theorem dp_str : Enc.dp Str = 0 := id rfl
@[simp] theorem dp_bool : Enc.dp Bool = 0 := id rfl
@[simp] theorem dp_nat : Enc.dp Nat = 0 := id rfl
@[simp] theorem dp_list : Enc.dp (List α) = Enc.dp α + 1 := id rfl
@[simp] theorem dp_prod : Enc.dp (α × β) = max (Enc.dp α) (Enc.dp β) + 1 := id rfl
@[simp] theorem dp_tri : Enc.dp (Tri α β γ) = max (Enc.dp α) (max (Enc.dp β) (Enc.dp γ)) + 1 := id rfl
@[simp] theorem e_int {a : Int} : Enc.e a = D.int a := id rfl
@[simp] theorem e_str {a : Str} : Enc.e a = D.str a := id rfl
@[simp] theorem e_bool {a : Bool} : Enc.e a = D.bl a := id rfl
@[simp] theorem e_nat {a : Nat} : Enc.e a = D.int a := id rfl
theorem e_list {a : List α} : Enc.e a = D.tup (a.map Enc.e) := rfl
theorem e_pair {p : α × β} : Enc.e p = D.tup [Enc.e p.1, Enc.e p.2] := rfl
theorem e_tri {p : Tri α β γ} : Enc.e p = D.tup [Enc.e p.a, Enc.e p.b, Enc.e p.c] := rfl
@[simp] theorem ok_e {a : α} (h : Enc.dp α ≤ n) : (Enc.e a).okd n = true := ok_mono h (Enc.ok a)
@[simp] theorem q_ee {a b : α} [Decidable (a = b)] : D.eqv (Enc.e a) (Enc.e b) = decide (a = b) := by
  by_cases h : a = b
  · rw [decide_eq_true h]
    exact (Enc.eq a b).mpr h
  · rw [decide_eq_false h]
    exact Bool.eq_false_iff.mpr fun y => h ((Enc.eq a b).mp y)
theorem Enc.inj {a b : α} (h : Enc.e a = Enc.e b) : a = b := (Enc.eq a b).mp (by rw [h]; exact (Enc.eq b b).mpr rfl)
@[simp] theorem e_inj {a b : α} : (Enc.e a = Enc.e b) = (a = b) := propext ⟨Enc.inj, fun h => by rw [h]⟩
@[simp] theorem w_eqE {a b : α} [Decidable (a = b)] (h : Enc.dp α ≤ 60) : dEq (Enc.e a) (Enc.e b) = some (.bl (decide (a = b)), false) := by
  rw [w_eq (ok_e h) (ok_e h), q_ee]
@[simp] theorem w_neE {a b : α} [Decidable (a = b)] (h : Enc.dp α ≤ 60) : dNe (Enc.e a) (Enc.e b) = some (.bl (!decide (a = b)), false) := by
  rw [w_ne (ok_e h) (ok_e h), q_ee]
@[simp] theorem w_eqI {a b : Int} : dEq (.int a) (.int b) = some (.bl (decide (a = b)), false) := w_eqE (α := Int) (by decide)
@[simp] theorem w_neI {a b : Int} : dNe (.int a) (.int b) = some (.bl (!decide (a = b)), false) := w_neE (α := Int) (by decide)
@[simp] theorem w_eqS {a b : Str} : dEq (.str a) (.str b) = some (.bl (decide (a = b)), false) := w_eqE (α := Str) (by decide)
@[simp] theorem w_neS {a b : Str} : dNe (.str a) (.str b) = some (.bl (!decide (a = b)), false) := w_neE (α := Str) (by decide)
theorem eL_q {a b : List α} [Decidable (a = b)] : D.eqv (eL a) (eL b) = decide (a = b) := by
  have z := q_ee (a := a) (b := b)
  rw [e_list, e_list, q_tt] at z
  unfold eL
  rw [q_ll]
  exact z
theorem ok_eL {a : List α} (h : Enc.dp α + 1 ≤ n) : (eL a).okd n = true := by
  cases n with
  | zero => omega
  | succ n =>
    unfold eL
    simp
    intro a _
    exact ok_e (by omega)
@[simp] theorem w_eqEL {a b : List α} [Decidable (a = b)] (h : Enc.dp α ≤ 50) : dEq (eL a) (eL b) = some (.bl (decide (a = b)), false) := by
  rw [w_eq (ok_eL (by omega)) (ok_eL (by omega)), eL_q]
@[simp] theorem w_neEL {a b : List α} [Decidable (a = b)] (h : Enc.dp α ≤ 50) : dNe (eL a) (eL b) = some (.bl (!decide (a = b)), false) := by
  rw [w_ne (ok_eL (by omega)) (ok_eL (by omega)), eL_q]
theorem has_iff {a : α} : ∀ {xs : List α}, (Enc.e a).has (xs.map Enc.e) = true ↔ a ∈ xs
  | [] => by simp
  | x :: xs => by
    rw [List.map_cons, has_cons, Bool.or_eq_true, has_iff, Enc.eq, List.mem_cons]
    constructor
    · rintro (h | h)
      · exact .inl h.symm
      · exact .inr h
    · rintro (h | h)
      · exact .inl h.symm
      · exact .inr h
theorem has_e {a : α} {xs : List α} [Decidable (a ∈ xs)] : (Enc.e a).has (xs.map Enc.e) = decide (a ∈ xs) := by
  by_cases h : a ∈ xs
  · rw [decide_eq_true h]
    exact has_iff.mpr h
  · rw [decide_eq_false h]
    exact Bool.eq_false_iff.mpr fun y => h (has_iff.mp y)
@[simp] theorem w_inE {neg : Bool} {a : α} {xs : List α} [Decidable (a ∈ xs)] (h : Enc.dp α ≤ 60) : dIn neg (Enc.e a) (Enc.e xs) = some (.bl (if neg then !decide (a ∈ xs) else decide (a ∈ xs)), false) := by
  rw [e_list, w_inT' (ok_e h) (by simp [h]), has_e]
@[simp] theorem w_inEL {neg : Bool} {a : α} {xs : List α} [Decidable (a ∈ xs)] (h : Enc.dp α ≤ 60) : dIn neg (Enc.e a) (eL xs) = some (.bl (if neg then !decide (a ∈ xs) else decide (a ∈ xs)), false) := by
  unfold eL
  rw [w_inL' (ok_e h) (by simp [h]), has_e]
@[simp] theorem w_inI {neg : Bool} {a : Int} {xs : List Int} : dIn neg (.int a) (Enc.e xs) = some (.bl (if neg then !decide (a ∈ xs) else decide (a ∈ xs)), false) := w_inE (a := a) (by decide)
@[simp] theorem w_inIL {neg : Bool} {a : Int} {xs : List Int} : dIn neg (.int a) (eL xs) = some (.bl (if neg then !decide (a ∈ xs) else decide (a ∈ xs)), false) := w_inEL (a := a) (by decide)
@[simp] theorem w_inS {neg : Bool} {a : Str} {xs : List Str} : dIn neg (.str a) (Enc.e xs) = some (.bl (if neg then !decide (a ∈ xs) else decide (a ∈ xs)), false) := w_inE (a := a) (by decide)
@[simp] theorem w_inSL {neg : Bool} {a : Str} {xs : List Str} : dIn neg (.str a) (eL xs) = some (.bl (if neg then !decide (a ∈ xs) else decide (a ∈ xs)), false) := w_inEL (a := a) (by decide)
/-! looked at -/
variable {xs ys : List α}
@[simp] theorem E_walk : walkD (Enc.e xs) = some (xs.map Enc.e) := id rfl
@[simp] theorem E_seq : seqItems (Enc.e xs) = some (xs.map Enc.e) := id rfl
@[simp] theorem E_len : dLen [Enc.e xs] = some (.int (xs.length : Nat), false) := by
  rw [e_list, w_lenT, List.length_map]
@[simp] theorem E_tup : dTuple [Enc.e xs] = some (Enc.e xs, false) := id rfl
@[simp] theorem E_lst : dList [Enc.e xs] = some (eL xs, true) := id rfl
@[simp] theorem E_tr : (Enc.e xs).truth = some (!xs.isEmpty) := by
  rw [e_list, w_trT, List.isEmpty_map]
@[simp] theorem E_isiT : dIsi "tuple" (Enc.e xs) = some (.bl true, false) := id rfl
theorem cut_map {α β : Type} (f : α → β) (xs : List α) (lo hi : Option Int) : cutD (xs.map f) lo hi = (cutD xs lo hi).map f := by
  unfold cutD
  rw [List.length_map, List.map_take, List.map_drop]
@[simp] theorem E_sl {lo hi : Option Int} : dSl lo hi (Enc.e xs) = some (Enc.e (cutD xs lo hi), false) := by
  rw [e_list, w_sl, cut_map]
  rfl
@[simp] theorem E_rev : dRev (Enc.e xs) = some (Enc.e xs.reverse, false) := by
  rw [e_list, w_revT, ← List.map_reverse]
  rfl
theorem E_add (h : xs.length + ys.length ≤ LIM) : dAdd (Enc.e xs) (Enc.e ys) = some (Enc.e (xs ++ ys), false) := by
  rw [e_list, e_list, w_addT (by simpa using h), ← List.map_append]
  rfl
theorem atI_map {α β : Type} (f : α → β) (xs : List α) (i : Int) : atI (xs.map f) i = (atI xs i).map f := by
  unfold atI
  rw [List.length_map]
  cases ixN xs.length i <;> simp
@[simp] theorem E_ix {i : Int} : dIx (Enc.e xs) (.int i) = bO (atI xs i) fun a => some (Enc.e a, false) := by
  rw [e_list, w_ixT, atI_map]
  cases atI xs i <;> rfl
@[simp] theorem E_ixM {y : D} {M : List MO} : ixM (Enc.e xs) y M = bO (dIx (Enc.e xs) y) fun r => some (r, M) := ixM_tup
@[simp] theorem L_ixM {y : D} {M : List MO} : ixM (eL xs) y M = bO (dIx (eL xs) y) fun r => some (r, M) := ixM_lst
@[simp] theorem L_ix {i : Int} : dIx (eL xs) (.int i) = bO (atI xs i) fun a => some (Enc.e a, false) := by
  unfold eL
  rw [w_ixL, atI_map]
  cases atI xs i <;> rfl
@[simp] theorem L_walk : walkD (eL xs) = some (xs.map Enc.e) := id rfl
@[simp] theorem L_seq : seqItems (eL xs) = some (xs.map Enc.e) := id rfl
@[simp] theorem L_len : dLen [eL xs] = some (.int (xs.length : Nat), false) := by
  unfold eL
  rw [w_lenL, List.length_map]
@[simp] theorem L_tup : dTuple [eL xs] = some (Enc.e xs, false) := id rfl
@[simp] theorem L_lst : dList [eL xs] = some (eL xs, true) := id rfl
@[simp] theorem L_tr : (eL xs).truth = some (!xs.isEmpty) := by
  unfold eL
  rw [w_trL, List.isEmpty_map]
@[simp] theorem L_sl {lo hi : Option Int} : dSl lo hi (eL xs) = some (eL (cutD xs lo hi), true) := by
  unfold eL
  rw [w_slL, cut_map]
@[simp] theorem L_rev : dRev (eL xs) = some (eL xs.reverse, true) := by
  unfold eL
  rw [w_revL, ← List.map_reverse]
theorem L_add (h : xs.length + ys.length ≤ LIM) : dAdd (eL xs) (eL ys) = some (eL (xs ++ ys), true) := by
  unfold eL
  rw [w_addL (by simpa using h), ← List.map_append]
/-! pairs -/
variable {p : α × β} {t : Tri α β γ} {env : R.Env} {ts : List Tg}
@[simp] theorem P_bind : (Tg.tp ts).bind (Enc.e p) env = Tg.binds ts [Enc.e p.1, Enc.e p.2] env := id rfl
@[simp] theorem P_ix0 : dIx (Enc.e p) (.int 0) = some (Enc.e p.1, false) := id rfl
@[simp] theorem P_ix1 : dIx (Enc.e p) (.int 1) = some (Enc.e p.2, false) := id rfl
@[simp] theorem P_ixM {y : D} {M : List MO} : ixM (Enc.e p) y M = bO (dIx (Enc.e p) y) fun r => some (r, M) := ixM_tup
@[simp] theorem P_len : dLen [Enc.e p] = some (.int 2, false) := id rfl
@[simp] theorem P_isiT : dIsi "tuple" (Enc.e p) = some (.bl true, false) := id rfl
@[simp] theorem P_isiI : dIsi "int" (Enc.e p) = some (.bl false, false) := id rfl
@[simp] theorem P_isiS : dIsi "str" (Enc.e p) = some (.bl false, false) := id rfl
@[simp] theorem T_bind : (Tg.tp ts).bind (Enc.e t) env = Tg.binds ts [Enc.e t.a, Enc.e t.b, Enc.e t.c] env := id rfl
@[simp] theorem T_ix0 : dIx (Enc.e t) (.int 0) = some (Enc.e t.a, false) := id rfl
@[simp] theorem T_ix1 : dIx (Enc.e t) (.int 1) = some (Enc.e t.b, false) := id rfl
@[simp] theorem T_ix2 : dIx (Enc.e t) (.int 2) = some (Enc.e t.c, false) := id rfl
@[simp] theorem T_ixM {y : D} {M : List MO} : ixM (Enc.e t) y M = bO (dIx (Enc.e t) y) fun r => some (r, M) := ixM_tup
@[simp] theorem T_len : dLen [Enc.e t] = some (.int 3, false) := id rfl
@[simp] theorem T_isiT : dIsi "tuple" (Enc.e t) = some (.bl true, false) := id rfl
/-! places -/
theorem atI_lt {α : Type} {xs : List α} {i : Nat} (h : i < xs.length) : atI xs (i : Int) = some xs[i] := by
  unfold atI ixN
  rw [if_pos (by omega), if_pos (by omega), Int.toNat_natCast]
  exact List.getElem?_eq_getElem h
@[simp] theorem atI_c0 {α : Type} {x : α} {xs : List α} : atI (x :: xs) 0 = some x := by
  have z := atI_lt (xs := x :: xs) (i := 0) (by simp)
  simpa using z
theorem atI_nat {α : Type} {xs : List α} {i : Nat} : atI xs (i : Int) = xs[i]? := by
  by_cases h : i < xs.length
  · rw [atI_lt h, List.getElem?_eq_getElem h]
  · unfold atI ixN
    rw [if_pos (by omega), if_neg (by omega), List.getElem?_eq_none (by omega)]
    rfl
end
/-! ### walked together -/
theorem enumD_map' {α : Type} (g : α → D) (xs : List α) : enumD (xs.map g) = xs.zipIdx.map fun p => .tup [.int (p.2 : Nat), g p.1] := by
  unfold enumD
  apply List.ext_getElem?
  intro i
  rw [List.getElem?_mapIdx, List.getElem?_map, List.getElem?_map, List.getElem?_zipIdx]
  cases xs[i]? <;> simp
theorem zip3_map {α β γ : Type} (g : α → D) (h : β → D) (k : γ → D) : ∀ (xs : List α) (ys : List β) (zs : List γ), zip3D (xs.map g) (ys.map h) (zs.map k) = (xs.zip (ys.zip zs)).map fun p => .tup [g p.1, h p.2.1, k p.2.2]
  | [], _, _ => rfl
  | _ :: _, [], _ => rfl
  | _ :: _, _ :: _, [] => rfl
  | x :: xs, y :: ys, z :: zs => by
    rw [List.map_cons, List.map_cons, List.map_cons, zip3D, zip3_map, List.zip_cons_cons, List.zip_cons_cons, List.map_cons]
theorem zipD_map {α β : Type} (g : α → D) (h : β → D) : ∀ (xs : List α) (ys : List β), zipD (xs.map g) (ys.map h) = (xs.zip ys).map fun p => .tup [g p.1, h p.2]
  | [], _ => rfl
  | _ :: _, [] => rfl
  | x :: xs, y :: ys => by
    have ih := zipD_map g h xs ys
    unfold zipD at ih ⊢
    rw [List.map_cons, List.map_cons, List.zipWith_cons_cons, ih, List.zip_cons_cons, List.map_cons]
/-! ### comprehensions -/
def kC3 : D × List MO → Option (Option D × List MO)
  | (y, M) => some (some y, M)
@[simp] theorem v_kC3 {y : D} {M : List MO} : kC3 (y, M) = some (some y, M) := id rfl
def kC2 (elt : EP) (e1 : Env) : Bool × List MO → Option (Option D × List MO)
  | (b, M) => if b = true then bO (elt e1 M) kC3 else some (none, M)
@[simp] theorem v_kC2 {elt : EP} {e1 : Env} {b : Bool} {M : List MO} : kC2 elt e1 (b, M) = if b = true then bO (elt e1 M) kC3 else some (none, M) := id rfl
def kC1 (cond : EB) (elt : EP) (M : List MO) (e1 : Env) : Option (Option D × List MO) := bO (cond e1 M) (kC2 elt e1)
def stepC (env : Env) (tg : Tg) (cond : EB) (elt : EP) (d : D) (M : List MO) : Option (Option D × List MO) := bO (tg.bind d env) (kC1 cond elt M)
def compM {α : Type} (F : α → List MO → Option (Option D × List MO)) : List α → List MO → Option (List D × List MO)
  | [], M => some ([], M)
  | a :: as, M => bO (F a M) fun p => bO (compM F as p.2) fun q => some (p.1.toList ++ q.1, q.2)
@[simp] theorem compL_nil {env : Env} {tg : Tg} {cond : EB} {elt : EP} {M : List MO} : compL env tg cond elt [] M = some ([], M) := id rfl
theorem compL_cons {env : Env} {tg : Tg} {cond : EB} {elt : EP} {M : List MO} {d : D} {ds : List D} : compL env tg cond elt (d :: ds) M = bO (stepC env tg cond elt d M) fun p => bO (compL env tg cond elt ds p.2) fun q => some (p.1.toList ++ q.1, q.2) := by
  unfold stepC
  rw [compL]
  cases tg.bind d env with
  | none => rfl
  | some e1 =>
    rw [bO_some]
    unfold kC1 bO
    dsimp only
    cases cond e1 M with
    | none => rfl
    | some p =>
      obtain ⟨b, M1⟩ := p
      cases b with
      | false =>
        dsimp only
        simp
        cases compL env tg cond elt ds M1 <;> rfl
      | true =>
        dsimp only [kC2]
        rw [if_pos rfl]
        unfold bO
        cases elt e1 M1 with
        | none => rfl
        | some q =>
          obtain ⟨y, M2⟩ := q
          dsimp only [kC3]
          cases compL env tg cond elt ds M2 <;> rfl
theorem compL_app {env : Env} {tg : Tg} {cond : EB} {elt : EP} {es : List D} : ∀ {ds : List D} {M : List MO}, compL env tg cond elt (ds ++ es) M = bO (compL env tg cond elt ds M) fun p => bO (compL env tg cond elt es p.2) fun q => some (p.1 ++ q.1, q.2)
  | [], M => by
    rw [List.nil_append, compL_nil, bO_some]
    unfold bO
    cases compL env tg cond elt es M <;> rfl
  | d :: ds, M => by
    rw [List.cons_append, compL_cons, compL_cons]
    cases stepC env tg cond elt d M with
    | none => rfl
    | some p =>
      rw [bO_some, bO_some, compL_app]
      cases compL env tg cond elt ds p.2 with
      | none => rfl
      | some q =>
        rw [bO_some, bO_some, bO_some]
        cases compL env tg cond elt es q.2 with
        | none => rfl
        | some r =>
          rw [bO_some, bO_some, bO_some, List.append_assoc]
theorem compM_congr {α : Type} {F G : α → List MO → Option (Option D × List MO)} {xs : List α} {M : List MO} (h : ∀ a, a ∈ xs → ∀ M, F a M = G a M) : compM F xs M = compM G xs M := by
  induction xs generalizing M with
  | nil => rfl
  | cons x xs ih =>
    unfold compM
    rw [h x (List.mem_cons_self ..)]
    congr 1
    funext p
    rw [ih fun a ha => h a (List.mem_cons_of_mem _ ha)]
/-- a member (told so that its test is always the same one) -/
def In {α : Type} (a : α) (xs : List α) : Prop := a ∈ xs
noncomputable instance {α : Type} (a : α) (xs : List α) : Decidable (In a xs) := Classical.propDecidable _
@[simp] theorem In_iff {α : Type} {a : α} {xs : List α} : In a xs ↔ a ∈ xs := Iff.rfl
theorem compL_map {α : Type} {env : Env} {tg : Tg} {cond : EB} {elt : EP} {g : α → D} {xs : List α} {M : List MO} : compL env tg cond elt (xs.map g) M = compM (fun a M => if In a xs then stepC env tg cond elt (g a) M else none) xs M := by
  refine Eq.trans ?_ (compM_congr (F := fun a M => stepC env tg cond elt (g a) M) fun a ha M => (if_pos ha).symm)
  induction xs generalizing M with
  | nil => rfl
  | cons x xs ih =>
    rw [List.map_cons, compL_cons]
    unfold compM
    congr 1
    funext p
    rw [ih]
section
variable {α : Type} {c p : α → Prop} [DecidablePred c] [DecidablePred p] {h : α → D} {M : List MO} {xs : List α}
@[simp] theorem compM_map (hc : ∀ a ∈ xs, c a) : compM (fun a M => if c a then some (some (h a), M) else none) xs M = some (xs.map h, M) := by
  induction xs with
  | nil => rfl
  | cons x xs ih =>
    unfold compM
    rw [if_pos (hc x (List.mem_cons_self ..)), bO_some, ih fun a ha => hc a (List.mem_cons_of_mem _ ha)]
    rfl
@[simp] theorem compM_if (hc : ∀ a ∈ xs, c a) : compM (fun a M => if c a then (if p a then some (some (h a), M) else some (none, M)) else none) xs M = some ((xs.filter fun a => decide (p a)).map h, M) := by
  induction xs with
  | nil => rfl
  | cons x xs ih =>
    unfold compM
    rw [if_pos (hc x (List.mem_cons_self ..))]
    by_cases hp : p x
    · rw [if_pos hp, bO_some, ih fun a ha => hc a (List.mem_cons_of_mem _ ha), List.filter_cons_of_pos (by simpa using hp)]
      rfl
    · rw [if_neg hp, bO_some, ih fun a ha => hc a (List.mem_cons_of_mem _ ha), List.filter_cons_of_neg (by simpa using hp)]
      rfl
@[simp] theorem compM_ifn (hc : ∀ a ∈ xs, c a) : compM (fun a M => if c a then (if p a then some (none, M) else some (some (h a), M)) else none) xs M = some ((xs.filter fun a => !decide (p a)).map h, M) := by
  induction xs with
  | nil => rfl
  | cons x xs ih =>
    unfold compM
    rw [if_pos (hc x (List.mem_cons_self ..))]
    by_cases hp : p x
    · rw [if_pos hp, bO_some, ih fun a ha => hc a (List.mem_cons_of_mem _ ha), List.filter_cons_of_neg (by simpa using hp)]
      rfl
    · rw [if_neg hp, bO_some, ih fun a ha => hc a (List.mem_cons_of_mem _ ha), List.filter_cons_of_pos (by simpa using hp)]
      rfl
@[simp] theorem compM_map1 : compM (fun a M => some (some (h a), M)) xs M = some (xs.map h, M) := by
  induction xs with
  | nil => rfl
  | cons x xs ih =>
    unfold compM
    rw [bO_some, ih]
    rfl
@[simp] theorem compM_if1 : compM (fun a M => if p a then some (some (h a), M) else some (none, M)) xs M = some ((xs.filter fun a => decide (p a)).map h, M) := by
  induction xs with
  | nil => rfl
  | cons x xs ih =>
    unfold compM
    by_cases hp : p x
    · rw [if_pos hp, bO_some, ih, List.filter_cons_of_pos (by simpa using hp)]
      rfl
    · rw [if_neg hp, bO_some, ih, List.filter_cons_of_neg (by simpa using hp)]
      rfl
end
theorem all_bls {α : Type} {f : α → Bool} : ∀ {xs : List α}, asBls (xs.map fun a => D.bl (f a)) = some (xs.map f)
  | [] => rfl
  | x :: xs => by
    rw [List.map_cons, asBls, all_bls]
    rfl
@[simp] theorem w_all {α : Type} {f : α → Bool} {xs : List α} : dAll [.lst (xs.map fun a => D.bl (f a))] = some (.bl (xs.all f), false) := by
  show (asBls (xs.map fun a => D.bl (f a))).map _ = _
  rw [all_bls]
  simp [List.all_map]
@[simp] theorem w_any {α : Type} {f : α → Bool} {xs : List α} : dAny [.lst (xs.map fun a => D.bl (f a))] = some (.bl (xs.any f), false) := by
  show (asBls (xs.map fun a => D.bl (f a))).map _ = _
  rw [all_bls]
  simp [List.any_map]
theorem ints_map {α : Type} {f : α → Int} : ∀ {xs : List α}, asInts (xs.map fun a => D.int (f a)) = some (xs.map f)
  | [] => rfl
  | x :: xs => by
    rw [List.map_cons, asInts, ints_map]
    rfl
@[simp] theorem w_sum {α : Type} {f : α → Int} {xs : List α} : dSum [.lst (xs.map fun a => D.int (f a))] = some (.int (xs.map f).sum, false) := by
  show (asInts (xs.map fun a => D.int (f a))).map _ = _
  rw [ints_map]
  rfl
/-! pushing a test inward -/
@[simp] theorem ite_bl {p : Prop} [Decidable p] {a b c : Bool} {M : List MO} : (if p then some ((D.bl a, c), M) else some ((D.bl b, c), M)) = some ((D.bl (if p then a else b), c), M) := by
  by_cases h : p <;> simp [h]
@[simp] theorem ite_b {p : Prop} [Decidable p] {a b : Bool} {M : List MO} : (if p then some (a, M) else some (b, M)) = some (if p then a else b, M) := by
  by_cases h : p <;> simp [h]
/-! ### loops -/
/-- a loop to its end, told by what it has gone through -/
theorem forL_pre {α : Type} {g : α → D} {xs : List α} {e0 env : Env} {t : Tg} {body : ES} {M : List MO} (E : List α → Env) (h0 : env = E []) (hs : ∀ pre a post, xs = pre ++ a :: post → stepL e0 t body (g a) (E pre) M = some (.nx, E (pre ++ [a]), M)) :
    forL e0 t body (xs.map g) env M = some (.nx, E xs, M) := by
  subst h0
  have key : ∀ (post pre : List α), xs = pre ++ post → forL e0 t body (post.map g) (E pre) M = some (.nx, E xs, M) := by
    intro post
    induction post with
    | nil =>
      intro pre h
      rw [List.append_nil] at h
      rw [h]
      rfl
    | cons a post ih =>
      intro pre h
      rw [List.map_cons, forL_cons, hs pre a post h, bL_nx]
      exact ih (pre ++ [a]) (by rw [h, List.append_assoc]; rfl)
  exact key xs [] rfl
/-- a loop that looks for the first, its slots as they were -/
theorem forL_find {α : Type} {g : α → D} {e0 env : Env} {t : Tg} {body : ES} {M : List MO} (p : α → Bool) (r : α → D × Bool) : ∀ {xs : List α}, (∀ a ∈ xs, if p a = true then ∃ e, stepL e0 t body (g a) env M = some (.rt (r a), e, M) else stepL e0 t body (g a) env M = some (.nx, env, M)) →
    match xs.find? p with
    | some a => ∃ e, forL e0 t body (xs.map g) env M = some (.rt (r a), e, M)
    | none => forL e0 t body (xs.map g) env M = some (.nx, env, M)
  | [], _ => rfl
  | a :: xs, h => by
    have ha := h a (List.mem_cons_self ..)
    have ih := forL_find p r (xs := xs) fun b hb => h b (List.mem_cons_of_mem _ hb)
    rw [List.map_cons, forL_cons]
    by_cases hp : p a = true
    · rw [if_pos hp] at ha
      obtain ⟨e, he⟩ := ha
      rw [List.find?_cons_of_pos hp, he]
      exact ⟨e, rfl⟩
    · rw [if_neg hp] at ha
      rw [List.find?_cons_of_neg hp, ha]
      exact ih
/-- a loop by what stays true -/
theorem forL_inv {α : Type} {g : α → D} {xs : List α} {e0 env : Env} {t : Tg} {body : ES} {M : List MO} (I : List α → Env → List MO → Prop)
    (hs : ∀ pre a post env M, xs = pre ++ a :: post → I pre env M → ∃ env' M', stepL e0 t body (g a) env M = some (.nx, env', M') ∧ I (pre ++ [a]) env' M') (h0 : I [] env M) :
    ∃ env' M', forL e0 t body (xs.map g) env M = some (.nx, env', M') ∧ I xs env' M' := by
  have key : ∀ (post pre : List α) (env : Env) (M : List MO), xs = pre ++ post → I pre env M → ∃ env' M', forL e0 t body (post.map g) env M = some (.nx, env', M') ∧ I xs env' M' := by
    intro post
    induction post with
    | nil =>
      intro pre env M h hI
      rw [List.append_nil] at h
      exact ⟨env, M, rfl, by rw [h]; exact hI⟩
    | cons a post ih =>
      intro pre env M h hI
      obtain ⟨env', M', e, hI'⟩ := hs pre a post env M h hI
      rw [List.map_cons, forL_cons, e, bL_nx]
      exact ih (pre ++ [a]) env' M' (by rw [h, List.append_assoc]; rfl) hI'
  exact key xs [] env M rfl h0
/-- a comprehension by what stays true -/
theorem compL_inv {α : Type} {g : α → D} {xs : List α} {env : Env} {tg : Tg} {cond : EB} {elt : EP} {M : List MO} (I : List α → List D → List MO → Prop)
    (hs : ∀ pre a post ds M, xs = pre ++ a :: post → I pre ds M → ∃ o M', stepC env tg cond elt (g a) M = some (o, M') ∧ I (pre ++ [a]) (ds ++ o.toList) M') (h0 : I [] [] M) :
    ∃ ds M', compL env tg cond elt (xs.map g) M = some (ds, M') ∧ I xs ds M' := by
  have key : ∀ (post pre : List α) (ds : List D) (M : List MO), xs = pre ++ post → I pre ds M → ∃ es M', compL env tg cond elt (post.map g) M = some (es, M') ∧ I xs (ds ++ es) M' := by
    intro post
    induction post with
    | nil =>
      intro pre ds M h hI
      rw [List.append_nil] at h
      exact ⟨[], M, rfl, by rw [h, List.append_nil]; exact hI⟩
    | cons a post ih =>
      intro pre ds M h hI
      obtain ⟨o, M', e, hI'⟩ := hs pre a post ds M h hI
      obtain ⟨es, M2, e2, hI2⟩ := ih (pre ++ [a]) _ M' (by rw [h, List.append_assoc]; rfl) hI'
      refine ⟨o.toList ++ es, M2, ?_, by rw [← List.append_assoc]; exact hI2⟩
      rw [List.map_cons, compL_cons, e, bO_some, e2, bO_some]
  obtain ⟨ds, M', e, hI⟩ := key xs [] [] M rfl h0
  exact ⟨ds, M', e, hI⟩
/-! is -/
@[simp] theorem w_isB {a b : Bool} : dIsB (.bl a) (.bl b) = some (.bl (decide (a = b)), false) := id rfl
@[simp] theorem w_isNotB {a b : Bool} : dIsNotB (.bl a) (.bl b) = some (.bl (!decide (a = b)), false) := id rfl
@[simp] theorem w_isN {d : D} : dIsB d .non = some (.bl d.isNon, false) := id rfl
@[simp] theorem w_isNotN {d : D} : dIsNotB d .non = some (.bl (!d.isNon), false) := id rfl
@[simp] theorem non_n : D.isNon .non = true := id rfl
@[simp] theorem non_b {a : Bool} : D.isNon (.bl a) = false := id rfl
@[simp] theorem non_i {a : Int} : D.isNon (.int a) = false := id rfl
@[simp] theorem non_s {a : Str} : D.isNon (.str a) = false := id rfl
@[simp] theorem non_t {a : List D} : D.isNon (.tup a) = false := id rfl
@[simp] theorem non_l {a : List D} : D.isNon (.lst a) = false := id rfl
@[simp] theorem non_eL {α : Type} [Enc α] {a : List α} : D.isNon (eL a) = false := id rfl
@[simp] theorem non_E {α : Type} [Enc α] {a : List α} : D.isNon (Enc.e a) = false := id rfl
@[simp] theorem non_P {α β : Type} [Enc α] [Enc β] {a : α × β} : D.isNon (Enc.e a) = false := id rfl
@[simp] theorem non_T {α β γ : Type} [Enc α] [Enc β] [Enc γ] {a : Tri α β γ} : D.isNon (Enc.e a) = false := id rfl
section
variable {α β : Type} [Enc α] [Enc β] {p : α × β}
theorem P_walk : walkD (Enc.e p) = some [Enc.e p.1, Enc.e p.2] := id rfl
theorem P_seq : seqItems (Enc.e p) = some [Enc.e p.1, Enc.e p.2] := id rfl
end
theorem w_sum2 {a b : Int} : dSum [.lst [.int a, .int b]] = some (.int (a + b), false) := by
  have z := w_sum (f := fun i : Int => i) (xs := [a, b])
  simp at z
  exact z
@[simp] theorem w_eqB {a b : Bool} : dEq (.bl a) (.bl b) = some (.bl (decide (a = b)), false) := w_eqE (α := Bool) (by decide)
@[simp] theorem w_neB {a b : Bool} : dNe (.bl a) (.bl b) = some (.bl (!decide (a = b)), false) := w_neE (α := Bool) (by decide)
@[simp] theorem w_pow16 : dPow (.int 10) (.int 16) = some (.int 10000000000000000, false) := by rfl
theorem dI_e (xs : List Int) : dI xs = xs.map Enc.e := rfl
end R

set_option Elab.async false
set_option linter.all false
set_option maxRecDepth 100000
set_option maxHeartbeats 1000000
/-! R27: order of what stands for data, sorted -/
namespace R
open PySem PySem.Spec L2
/-- a strict order that decides -/
structure LtOk {α : Type} (lt : α → α → Bool) : Prop where
  irr : ∀ a, lt a a = false
  tr : ∀ a b c, lt a b = true → lt b c = true → lt a c = true
  tot : ∀ a b, lt a b = true ∨ a = b ∨ lt b a = true
theorem LtOk.asym {α : Type} {lt : α → α → Bool} (o : LtOk lt) {a b : α} (h : lt a b = true) : lt b a = false := Bool.eq_false_iff.mpr fun z => by
  have := o.tr _ _ _ h z
  rw [o.irr] at this
  cases this
def tupB : D → Bool
  | .tup (_ :: _) => true
  | _ => false
def otherB : D → Bool
  | .tup _ => false
  | .non => false
  | _ => true
class EOrd (α : Type) extends Enc α where
  lt : α → α → Bool
  alike : ∀ a b, PySem.W.alike (e a).py (e b).py = true
  ltE : ∀ a b, PySem.W.dataLt (e a).py (e b).py = lt a b
  lok : LtOk lt
  /-- tuples, or none -/
  tp : Bool
  /-- not the empty tuple -/
  good : α → Bool
  gE : ∀ a, good a = true → (if tp then tupB (e a) else otherB (e a)) = true
instance : EOrd Int where
  lt a b := decide (a < b)
  alike a b := rfl
  ltE a b := PySem.W.dataLt_int a b
  lok := ⟨fun a => by simp, fun a b c h1 h2 => by simp at h1 h2 ⊢; omega, fun a b => by simp; omega⟩
  tp := false
  good _ := true
  gE _ _ := rfl
instance : EOrd Nat where
  lt a b := decide (a < b)
  alike a b := rfl
  ltE a b := by
    show PySem.W.dataLt (.int a) (.int b) = _
    rw [PySem.W.dataLt_int]
    simp
  lok := ⟨fun a => by simp, fun a b c h1 h2 => by simp at h1 h2 ⊢; omega, fun a b => by simp; omega⟩
  tp := false
  good _ := true
  gE _ _ := rfl
instance : EOrd Str where
  lt := ltS
  alike a b := rfl
  ltE a b := PySem.W.dataLt_str a b
  lok := ⟨fun a => by simp [ltS], fun a b c h1 h2 => by
      unfold ltS at h1 h2 ⊢
      simp only [decide_eq_true_eq] at h1 h2 ⊢
      exact List.lt_trans h1 h2, fun a b => by
      unfold ltS
      simp only [decide_eq_true_eq]
      rcases List.le_total a.cps.toList b.cps.toList with h | h
      · rcases List.le_iff_lt_or_eq.mp h with z | z
        · exact .inl z
        · exact .inr (.inl (PySem.W.str_of_cps z))
      · rcases List.le_iff_lt_or_eq.mp h with z | z
        · exact .inr (.inr z)
        · exact .inr (.inl (PySem.W.str_of_cps z.symm))⟩
  tp := false
  good _ := true
  gE _ _ := rfl
def lexL {α : Type} (lt : α → α → Bool) : List α → List α → Bool
  | [], [] => false
  | [], _ :: _ => true
  | _ :: _, [] => false
  | x :: xs, y :: ys => lt x y || (!lt y x && lexL lt xs ys)
theorem lexL_ok {α : Type} {lt : α → α → Bool} (o : LtOk lt) : LtOk (lexL lt) where
  irr a := by
    induction a with
    | nil => rfl
    | cons x xs ih => simp [lexL, o.irr, ih]
  tr a := by
    induction a with
    | nil =>
      intro b c h1 h2
      cases b with
      | nil => simp [lexL] at h1
      | cons y ys =>
        cases c with
        | nil => simp [lexL] at h2
        | cons z zs => rfl
    | cons x xs ih =>
      intro b c h1 h2
      cases b with
      | nil => simp [lexL] at h1
      | cons y ys =>
        cases c with
        | nil => simp [lexL] at h2
        | cons z zs =>
          simp only [lexL, Bool.or_eq_true, Bool.and_eq_true, Bool.not_eq_true'] at h1 h2 ⊢
          rcases h1 with h1 | ⟨h1, h1'⟩
          · rcases h2 with h2 | ⟨h2, h2'⟩
            · exact .inl (o.tr _ _ _ h1 h2)
            · rcases o.tot y z with h3 | h3 | h3
              · exact .inl (o.tr _ _ _ h1 h3)
              · exact .inl (h3 ▸ h1)
              · rw [h2] at h3; cases h3
          · rcases h2 with h2 | ⟨h2, h2'⟩
            · rcases o.tot x y with h3 | h3 | h3
              · exact .inl (o.tr _ _ _ h3 h2)
              · exact .inl (h3 ▸ h2)
              · rw [h1] at h3; cases h3
            · rcases o.tot x y with h3 | h3 | h3
              · rcases o.tot y z with h4 | h4 | h4
                · exact .inl (o.tr _ _ _ h3 h4)
                · exact .inl (h4 ▸ h3)
                · rw [h2] at h4; cases h4
              · subst h3
                rcases o.tot x z with h4 | h4 | h4
                · exact .inl h4
                · subst h4
                  exact .inr ⟨o.irr _, ih _ _ h1' h2'⟩
                · rw [h2] at h4; cases h4
              · rw [h1] at h3; cases h3
  tot a := by
    induction a with
    | nil =>
      intro b
      cases b with
      | nil => exact .inr (.inl rfl)
      | cons y ys => exact .inl rfl
    | cons x xs ih =>
      intro b
      cases b with
      | nil => exact .inr (.inr rfl)
      | cons y ys =>
        simp only [lexL, Bool.or_eq_true, Bool.and_eq_true, Bool.not_eq_true', List.cons.injEq]
        rcases o.tot x y with h | h | h
        · exact .inl (.inl h)
        · subst h
          rcases ih ys with z | z | z
          · exact .inl (.inr ⟨o.irr _, z⟩)
          · exact .inr (.inl ⟨rfl, z⟩)
          · exact .inr (.inr (.inr ⟨o.irr _, z⟩))
        · exact .inr (.inr (.inl h))
theorem pysE {α : Type} [Enc α] : ∀ xs : List α, D.pys (xs.map Enc.e) = xs.map fun a => (Enc.e a).py
  | [] => rfl
  | x :: xs => by rw [List.map_cons, D.pys, pysE xs, List.map_cons]
theorem eqv_iff_lt {α : Type} [EOrd α] {a b : α} : PyData.eqv (Enc.e a).py (Enc.e b).py = true ↔ a = b := Enc.eq a b
theorem alikeL {α : Type} [EOrd α] : ∀ xs ys : List α, PySem.W.alikeAll (xs.map fun a => (Enc.e a).py) (ys.map fun a => (Enc.e a).py) = true
  | [], ys => by simp [PySem.W.alikeAll]
  | _ :: _, [] => by simp [PySem.W.alikeAll]
  | x :: xs, y :: ys => by
    rw [List.map_cons, List.map_cons, PySem.W.alikeAll, alikeL xs ys, EOrd.alike]
    rfl
theorem rowLtL {α : Type} [EOrd α] : ∀ xs ys : List α, PySem.W.rowLt (xs.map fun a => (Enc.e a).py) (ys.map fun a => (Enc.e a).py) = lexL EOrd.lt xs ys
  | [], [] => PyProof.Rows.lex_irrefl _
  | [], y :: ys => by
    show PyProof.Rows.lexLt PyProof.Rows.itemOrd (PySem.W.keyToksAll []) (PySem.W.keyToksAll _) = true
    rw [List.map_cons, PySem.W.toks_all_cons, PySem.W.keyToksAll]
    rfl
  | x :: xs, [] => by
    show PyProof.Rows.lexLt PyProof.Rows.itemOrd (PySem.W.keyToksAll _) (PySem.W.keyToksAll []) = false
    rw [List.map_cons, PySem.W.toks_all_cons, PySem.W.keyToksAll]
    rfl
  | x :: xs, y :: ys => by
    have ih := rowLtL xs ys
    unfold PySem.W.rowLt at ih ⊢
    rw [List.map_cons, List.map_cons, PySem.W.dataLt_cons (EOrd.alike x y), ih, EOrd.ltE, lexL]
    by_cases h : x = y
    · subst h
      rw [if_pos (eqv_iff_lt.mpr rfl), (EOrd.lok (α := α)).irr]
      simp
    · rw [if_neg fun z => h (eqv_iff_lt.mp z)]
      rcases (EOrd.lok (α := α)).tot x y with z | z | z
      · simp [z]
      · exact absurd z h
      · simp [z, (EOrd.lok (α := α)).asym z]
instance {α : Type} [EOrd α] : EOrd (List α) where
  lt := lexL EOrd.lt
  alike a b := by
    rw [e_list, e_list, D.py, D.py, pysE, pysE, PySem.W.alike]
    exact alikeL a b
  ltE a b := by
    rw [e_list, e_list, D.py, D.py, pysE, pysE, PySem.W.dataLt_tuple]
    exact rowLtL a b
  lok := lexL_ok EOrd.lok
  tp := true
  good a := !a.isEmpty
  gE a h := by
    cases a with
    | nil => cases h
    | cons x xs => rfl
def lexP {α β : Type} (l1 : α → α → Bool) (l2 : β → β → Bool) (a b : α × β) : Bool := l1 a.1 b.1 || (!l1 b.1 a.1 && l2 a.2 b.2)
theorem lexP_ok {α β : Type} {l1 : α → α → Bool} {l2 : β → β → Bool} (o1 : LtOk l1) (o2 : LtOk l2) : LtOk (lexP l1 l2) where
  irr a := by simp [lexP, o1.irr, o2.irr]
  tr a b c h1 h2 := by
    simp only [lexP, Bool.or_eq_true, Bool.and_eq_true, Bool.not_eq_true'] at h1 h2 ⊢
    rcases h1 with h1 | ⟨h1, h1'⟩
    · rcases h2 with h2 | ⟨h2, h2'⟩
      · exact .inl (o1.tr _ _ _ h1 h2)
      · rcases o1.tot b.1 c.1 with h3 | h3 | h3
        · exact .inl (o1.tr _ _ _ h1 h3)
        · exact .inl (h3 ▸ h1)
        · rw [h2] at h3; cases h3
    · rcases h2 with h2 | ⟨h2, h2'⟩
      · rcases o1.tot a.1 b.1 with h3 | h3 | h3
        · exact .inl (o1.tr _ _ _ h3 h2)
        · exact .inl (h3 ▸ h2)
        · rw [h1] at h3; cases h3
      · rcases o1.tot a.1 b.1 with h3 | h3 | h3
        · rcases o1.tot b.1 c.1 with h4 | h4 | h4
          · exact .inl (o1.tr _ _ _ h3 h4)
          · exact .inl (h4 ▸ h3)
          · rw [h2] at h4; cases h4
        · rcases o1.tot a.1 c.1 with h4 | h4 | h4
          · exact .inl h4
          · exact .inr ⟨h4 ▸ o1.irr _, o2.tr _ _ _ h1' h2'⟩
          · rw [h3, h2] at h4; cases h4
        · rw [h1] at h3; cases h3
  tot a b := by
    obtain ⟨x, y⟩ := a
    obtain ⟨u, v⟩ := b
    simp only [lexP, Bool.or_eq_true, Bool.and_eq_true, Bool.not_eq_true', Prod.mk.injEq]
    rcases o1.tot x u with h | h | h
    · exact .inl (.inl h)
    · subst h
      rcases o2.tot y v with z | z | z
      · exact .inl (.inr ⟨o1.irr _, z⟩)
      · exact .inr (.inl ⟨rfl, z⟩)
      · exact .inr (.inr (.inr ⟨o1.irr _, z⟩))
    · exact .inr (.inr (.inl h))
/-- the first parts that differ decide -/
theorem lt_step {α : Type} [EOrd α] {x y : α} {xs ys : List PyData} {r : Bool} (h : PySem.W.rowLt xs ys = r) : PySem.W.rowLt ((Enc.e x).py :: xs) ((Enc.e y).py :: ys) = (EOrd.lt x y || (!EOrd.lt y x && r)) := by
  unfold PySem.W.rowLt at h ⊢
  rw [PySem.W.dataLt_cons (EOrd.alike x y), h, EOrd.ltE]
  by_cases e : x = y
  · subst e
    rw [if_pos (eqv_iff_lt.mpr rfl), (EOrd.lok (α := α)).irr]
    simp
  · rw [if_neg fun z => e (eqv_iff_lt.mp z)]
    rcases (EOrd.lok (α := α)).tot x y with z | z | z
    · simp [z]
    · exact absurd z e
    · simp [z, (EOrd.lok (α := α)).asym z]
theorem rowLt_nil : PySem.W.rowLt [] [] = false := PyProof.Rows.lex_irrefl _
instance {α β : Type} [EOrd α] [EOrd β] : EOrd (α × β) where
  lt := lexP EOrd.lt EOrd.lt
  alike a b := by
    rw [e_pair, e_pair, D.py, D.py, D.pys, D.pys, D.pys, D.pys, D.pys, PySem.W.alike, PySem.W.alikeAll, PySem.W.alikeAll, EOrd.alike, EOrd.alike]
    rfl
  ltE a b := by
    rw [e_pair, e_pair]
    simp only [D.py, D.pys]
    rw [PySem.W.dataLt_tuple]
    show PySem.W.rowLt _ _ = _
    rw [lt_step (lt_step rowLt_nil)]
    simp [lexP]
  lok := lexP_ok EOrd.lok EOrd.lok
  tp := true
  good _ := true
  gE _ _ := rfl
instance {α β γ : Type} [EOrd α] [EOrd β] [EOrd γ] : EOrd (Tri α β γ) where
  lt a b := lexP EOrd.lt (lexP EOrd.lt EOrd.lt) (a.a, a.b, a.c) (b.a, b.b, b.c)
  alike a b := by
    rw [e_tri, e_tri, D.py, D.py, D.pys, D.pys, D.pys, D.pys, D.pys, D.pys, D.pys, PySem.W.alike, PySem.W.alikeAll, PySem.W.alikeAll, PySem.W.alikeAll, EOrd.alike, EOrd.alike, EOrd.alike]
    rfl
  ltE a b := by
    rw [e_tri, e_tri]
    simp only [D.py, D.pys]
    rw [PySem.W.dataLt_tuple]
    show PySem.W.rowLt _ _ = _
    rw [lt_step (lt_step (lt_step rowLt_nil))]
    simp [lexP]
  lok := by
    have o : LtOk (lexP (EOrd.lt (α := α)) (lexP (EOrd.lt (α := β)) (EOrd.lt (α := γ)))) := lexP_ok EOrd.lok (lexP_ok EOrd.lok EOrd.lok)
    exact ⟨fun a => o.irr _, fun a b c => o.tr _ _ _, fun a b => by
      obtain ⟨x, y, z⟩ := a
      obtain ⟨u, v, w⟩ := b
      rcases o.tot (x, y, z) (u, v, w) with h | h | h
      · exact .inl h
      · cases h
        exact .inr (.inl rfl)
      · exact .inr (.inr h)⟩
  tp := true
  good _ := true
  gE _ _ := rfl
/-! ### sorted -/
section
variable {α : Type} [EOrd α]
def leO (a b : α) : Bool := !EOrd.lt b a
def srt (xs : List α) : List α := xs.mergeSort leO
theorem leO_tr (a b c : α) (h1 : leO a b = true) (h2 : leO b c = true) : leO a c = true := by
  have o := EOrd.lok (α := α)
  unfold leO at h1 h2 ⊢
  simp only [Bool.not_eq_true'] at h1 h2 ⊢
  rcases o.tot a b with h | h | h
  · rcases o.tot b c with z | z | z
    · exact o.asym (o.tr _ _ _ h z)
    · exact z ▸ o.asym h
    · rw [h2] at z; cases z
  · exact h ▸ h2
  · rw [h1] at h; cases h
theorem leO_tot (a b : α) : (leO a b || leO b a) = true := by
  have o := EOrd.lok (α := α)
  unfold leO
  rcases o.tot a b with h | h | h
  · simp [o.asym h]
  · subst h
    simp [o.irr]
  · simp [o.asym h]
theorem leO_anti {a b : α} (h1 : leO a b = true) (h2 : leO b a = true) : a = b := by
  have o := EOrd.lok (α := α)
  unfold leO at h1 h2
  simp only [Bool.not_eq_true'] at h1 h2
  rcases o.tot a b with h | h | h
  · rw [h2] at h; cases h
  · exact h
  · rw [h1] at h; cases h
theorem srt_perm (xs : List α) : (srt xs).Perm xs := List.mergeSort_perm xs leO
theorem srt_pw (xs : List α) : (srt xs).Pairwise fun a b => leO a b = true := List.pairwise_mergeSort leO_tr leO_tot xs
@[simp] theorem mem_srt {xs : List α} {a : α} : a ∈ srt xs ↔ a ∈ xs := (srt_perm xs).mem_iff
@[simp] theorem len_srt {xs : List α} : (srt xs).length = xs.length := (srt_perm xs).length_eq
/-- sorted is told by what it has, and how often -/
theorem srt_unique : ∀ {xs ys : List α}, xs.Perm ys → (xs.Pairwise fun a b => leO a b = true) → (ys.Pairwise fun a b => leO a b = true) → xs = ys := by
  intro xs ys p hx hy
  exact p.eq_of_pairwise (fun a b _ _ h1 h2 => leO_anti h1 h2) hx hy
theorem srt_eq {xs ys : List α} (p : xs.Perm ys) : srt xs = srt ys := srt_unique ((srt_perm xs).trans (p.trans (srt_perm ys).symm)) (srt_pw xs) (srt_pw ys)
theorem srt_of {xs : List α} (h : xs.Pairwise fun a b => leO a b = true) : srt xs = xs := srt_unique (srt_perm xs) (srt_pw xs) h
theorem leO_of_lt {a b : α} (h : EOrd.lt a b = true) : leO a b = true := by
  unfold leO
  rw [(EOrd.lok (α := α)).asym h]
  rfl
/-- strictly rising, and told by its members -/
theorem pw_ext_lt : ∀ {xs ys : List α}, (xs.Pairwise fun a b => EOrd.lt a b = true) → (ys.Pairwise fun a b => EOrd.lt a b = true) → (∀ r, r ∈ xs ↔ r ∈ ys) → xs = ys
  | [], [], _, _, _ => rfl
  | [], y :: ys, _, _, h => absurd ((h y).mpr (List.mem_cons_self ..)) (by simp)
  | x :: xs, [], _, _, h => absurd ((h x).mp (List.mem_cons_self ..)) (by simp)
  | x :: xs, y :: ys, hx, hy, h => by
    have o := EOrd.lok (α := α)
    have hx' := List.pairwise_cons.mp hx
    have hy' := List.pairwise_cons.mp hy
    have no : ∀ a : α, ¬ EOrd.lt a a = true := fun a z => by rw [o.irr] at z; cases z
    have e : x = y := by
      rcases List.mem_cons.mp ((h x).mp (List.mem_cons_self ..)) with z | z
      · exact z
      · rcases List.mem_cons.mp ((h y).mpr (List.mem_cons_self ..)) with w | w
        · exact w.symm
        · exact absurd (o.tr _ _ _ (hy'.1 x z) (hx'.1 y w)) (no y)
    subst e
    rw [pw_ext_lt hx'.2 hy'.2 fun r => ?_]
    constructor
    · intro hr
      rcases List.mem_cons.mp ((h r).mp (List.mem_cons_of_mem _ hr)) with z | z
      · exact absurd (z ▸ hx'.1 r hr) (no _)
      · exact z
    · intro hr
      rcases List.mem_cons.mp ((h r).mpr (List.mem_cons_of_mem _ hr)) with z | z
      · exact absurd (z ▸ hy'.1 r hr) (no _)
      · exact z
theorem srt_lt {xs : List α} (h : xs.Nodup) : (srt xs).Pairwise fun a b => EOrd.lt a b = true := by
  have o := EOrd.lok (α := α)
  refine ((srt_pw xs).and ((srt_perm xs).nodup_iff.mpr h)).imp fun {a b} q => ?_
  rcases o.tot a b with z | z | z
  · exact z
  · exact absurd z q.2
  · have := q.1
    unfold leO at this
    rw [z] at this
    cases this
/-- what can be sorted -/
def SortOk (xs : List α) : Prop := ∀ a ∈ xs, EOrd.good a = true
theorem le_e (x y : α) : D.le (Enc.e x) (Enc.e y) = leO x y := by
  show (!PySem.W.dataLt (Enc.e y).py (Enc.e x).py) = _
  rw [EOrd.ltE]
  rfl
theorem srt_alike (xs : List α) : D.alikeB (xs.map Enc.e) = true := List.all_eq_true.mpr fun d hd => List.all_eq_true.mpr fun e he => by
  obtain ⟨x, _, rfl⟩ := List.mem_map.mp hd
  obtain ⟨y, _, rfl⟩ := List.mem_map.mp he
  exact EOrd.alike x y
theorem srt_sortB {xs : List α} (h : SortOk xs) : D.sortB (xs.map Enc.e) = true := by
  unfold D.sortB
  rw [Bool.or_eq_true]
  cases ht : EOrd.tp (α := α) with
  | true =>
    refine .inl (List.all_eq_true.mpr fun d hd => ?_)
    obtain ⟨x, hx, rfl⟩ := List.mem_map.mp hd
    have g := EOrd.gE x (h x hx)
    rw [ht, if_pos rfl] at g
    unfold tupB at g
    split at g
    · first | rfl | (rename_i z; rw [z])
    · cases g
  | false =>
    refine .inr (List.all_eq_true.mpr fun d hd => ?_)
    obtain ⟨x, hx, rfl⟩ := List.mem_map.mp hd
    have g := EOrd.gE x (h x hx)
    rw [ht, if_neg Bool.false_ne_true] at g
    unfold otherB at g
    split at g
    · cases g
    · cases g
    · rename_i z1 z2
      first
      | rfl
      | (split
         · rename_i z; exact absurd z (z1 _)
         · rename_i z; exact absurd z z2
         · rfl)
theorem w_srt {xs : List α} (h : SortOk xs) (hd : Enc.dp α ≤ 50) : sortD (xs.map Enc.e) = some (eL (srt xs), true) := by
  unfold sortD
  have hc : sortC (xs.map Enc.e) = true := by
    unfold sortC
    have h1 : D.alikeB (xs.map Enc.e) = true := srt_alike xs
    have h2 : D.sortB (xs.map Enc.e) = true := srt_sortB h
    have h3 : ((xs.map Enc.e).all fun d => d.pure && decide (d.depth ≤ 64)) = true := List.all_eq_true.mpr fun d hd' => by
      obtain ⟨x, _, rfl⟩ := List.mem_map.mp hd'
      obtain ⟨a, b⟩ := D.okd_ok (ok_e (a := x) hd)
      rw [a]
      simp
      omega
    rw [h1, h2, h3]
    simp
  rw [if_pos hc]
  have e := List.map_mergeSort (r := leO) (s := D.le) (f := Enc.e) (l := xs) (fun a _ b _ => (le_e a b).symm)
  rw [← e]
  rfl
/-- the least or the greatest -/
def bst (mx : Bool) (x : α) (xs : List α) : α := xs.foldl (fun m d => if (if mx then EOrd.lt m d else EOrd.lt d m) then d else m) x
theorem bst_e : ∀ (mx : Bool) (xs : List α) (x : α), bD mx (Enc.e x) (xs.map Enc.e) = Enc.e (bst mx x xs)
  | mx, [], x => rfl
  | mx, y :: xs, x => by
    have z := bst_e mx xs (if (if mx then EOrd.lt x y else EOrd.lt y x) then y else x)
    unfold bD bst at z ⊢
    rw [List.map_cons, List.foldl_cons, List.foldl_cons, ← z]
    congr 1
    rw [EOrd.ltE, EOrd.ltE]
    cases mx <;> simp only [Bool.false_eq_true, if_false, if_true] <;> split <;> rfl
theorem w_best1 {mx : Bool} {x : α} {xs : List α} (h : SortOk (x :: xs)) (hd : Enc.dp α ≤ 50) : bestX mx ((x :: xs).map Enc.e) = some (Enc.e (bst mx x xs), false) := by
  have hc : bestC ((x :: xs).map Enc.e) = true := by
    unfold bestC
    have h3 : D.okds ((x :: xs).map Enc.e) 60 = true := oks_all.mpr fun d hd' => by
      obtain ⟨x, _, rfl⟩ := List.mem_map.mp hd'
      exact ok_mono (by omega) (ok_e (a := x) hd)
    rw [srt_alike, srt_sortB h, h3]
    rfl
  rw [List.map_cons] at hc ⊢
  unfold bestX
  dsimp only
  rw [if_pos hc, bst_e]
theorem w_bestE {mx : Bool} {x : α} {xs : List α} (h : SortOk (x :: xs)) (hd : Enc.dp α ≤ 50) : dBest mx [Enc.e (x :: xs)] = some (Enc.e (bst mx x xs), false) := w_best1 h hd
theorem w_bestL {mx : Bool} {x : α} {xs : List α} (h : SortOk (x :: xs)) (hd : Enc.dp α ≤ 50) : dBest mx [eL (x :: xs)] = some (Enc.e (bst mx x xs), false) := w_best1 h hd
theorem w_sortE {xs : List α} (h : SortOk xs) (hd : Enc.dp α ≤ 50) : dSorted [Enc.e xs] = some (eL (srt xs), true) := w_srt h hd
theorem w_sortEL {xs : List α} (h : SortOk xs) (hd : Enc.dp α ≤ 50) : dSorted [eL xs] = some (eL (srt xs), true) := w_srt h hd
end
@[simp] theorem w_sortI {xs : List Int} : dSorted [Enc.e xs] = some (eL (srt xs), true) := w_sortE (fun _ _ => rfl) (by decide)
@[simp] theorem w_sortIL {xs : List Int} : dSorted [eL xs] = some (eL (srt xs), true) := w_sortEL (fun _ _ => rfl) (by decide)
@[simp] theorem w_sortS {xs : List Str} : dSorted [Enc.e xs] = some (eL (srt xs), true) := w_sortE (fun _ _ => rfl) (by decide)
@[simp] theorem w_sortSL {xs : List Str} : dSorted [eL xs] = some (eL (srt xs), true) := w_sortEL (fun _ _ => rfl) (by decide)
@[simp] theorem w_sortP {α β : Type} [EOrd α] [EOrd β] {xs : List (α × β)} (hd : Enc.dp (α × β) ≤ 50) : dSorted [Enc.e xs] = some (eL (srt xs), true) := w_sortE (fun _ _ => rfl) hd
@[simp] theorem w_sortPL {α β : Type} [EOrd α] [EOrd β] {xs : List (α × β)} (hd : Enc.dp (α × β) ≤ 50) : dSorted [eL xs] = some (eL (srt xs), true) := w_sortEL (fun _ _ => rfl) hd
end R

set_option Elab.async false
set_option linter.all false
set_option maxRecDepth 100000
/-! bodies -/
namespace LW
open PySem PySem.Spec L2 R
def B_demand : ES := sPre [] (sIf (eNot (tbV (eVar 0))) (sNone) (sNx))
def F_demand : Fn := mkFn 2 B_demand
def B_is_in : ES := sPre [] (sRet (vAnd (tbB (eFz (eUn (dIsi "int") (eVar 0)))) (vAnd (tbB (eFz (eOld (bVal (eNot (tbV (eFz (eUn (dIsi "bool") (eVar 0))))))))) (eChain dLe dLe (eVar 1) (eVar 0) (eVar 2)))))
def F_is_in : Fn := mkFn 3 B_is_in
def B_is_tuple : ES := sPre [] (sRet (vAnd (tbB (eFz (eUn (dIsi "tuple") (eVar 0)))) (eChain dLe dLe (eVar 1) (eFz (eCall dLen (eCons (eVar 0) (eNil)))) (eVar 2))))
def F_is_tuple : Fn := mkFn 3 B_is_tuple
def B_is_word : ES := sPre [] (sRet (vAnd (tbB (eFz (eUn (dIsi "str") (eVar 0)))) (vAnd (tbB (eFz (eChain dLe dLe (eFz (eOld (eCst (.int 1)))) (eFz (eCall dLen (eCons (eVar 0) (eNil)))) (eFz (eOld (eCst (.int 8))))))) (eCall dAll (eCons (eFz (eComp [1] (iSeq (eVar 0)) (.nm 1) eYes (eFz (eOp (dIn false) (eVar 1) (eCst (.str "abcdefghijklmnopqrstuvwxyz")))))) (eNil))))))
def F_is_word : Fn := mkFn 2 B_is_word
def B_is_cell : ES := sPre [] (sRet (eFn F_is_in (eCons (eVar 0) (eCons (eFz (eOld (eCst (.int 0)))) (eCons (eFz (eOld (eCst (.int 9)))) (eNil))))))
def F_is_cell : Fn := mkFn 1 B_is_cell
def B_rises : ES := sPre [] (sRet (eCall dAll (eCons (eFz (eComp [1, 2] (iSeq (eFz (eZipL (eCons (eFz (eSl (eVar 0) (eNoP) (eSomeP (eFz (eUn dNeg (eFz (eOld (eCst (.int 1))))))))) (eCons (eFz (eSl (eVar 0) (eSomeP (eFz (eOld (eCst (.int 1))))) (eNoP))) (eNil)))))) (.tp [.nm 1, .nm 2]) eYes (eFz (eOp dLt (eVar 1) (eVar 2))))) (eNil))))
def F_rises : Fn := mkFn 3 B_rises
def B_is_table : ES := sPre [] (sRet (vAnd (tbB (eFz (eFn F_is_tuple (eCons (eVar 0) (eCons (eFz (eOld (eCst (.int 2)))) (eCons (eFz (eOld (eCst (.int 2)))) (eNil))))))) (vAnd (tbB (eFz (eFn F_is_word (eCons (eFz (eIxM (eVar 0) (eFz (eOld (eCst (.int 0)))))) (eNil))))) (eFn F_is_in (eCons (eFz (eIxM (eVar 0) (eFz (eOld (eCst (.int 1)))))) (eCons (eFz (eOld (eCst (.int 1)))) (eCons (eCst (.int 4)) (eNil))))))))
def F_is_table : Fn := mkFn 1 B_is_table
def B_is_schema : ES := sSeq (sPre [] (sIf (eOr (eNot (tbV (eFz (eFn F_is_tuple (eCons (eVar 0) (eCons (eFz (eOld (eCst (.int 1)))) (eCons (eCst (.int 4)) (eNil)))))))) (eNot (tbV (eFz (eCall dAll (eCons (eFz (eComp [1] (iSeq (eVar 0)) (.nm 1) eYes (eFz (eFn F_is_table (eCons (eVar 1) (eNil)))))) (eNil))))))) (sPre [] (sRet (eOld (eCst (.bl false))))) (sNx))) (sPre [] (sRet (eFn F_rises (eCons (eFz (eComp [2, 3] (iSeq (eVar 0)) (.tp [.nm 2, .nm 3]) eYes (eVar 2))) (eNil)))))
def F_is_schema : Fn := mkFn 4 B_is_schema
def B_demand_schema : ES := sPre [] (sEx (eFn F_demand (eCons (eFz (eFn F_is_schema (eCons (eVar 0) (eNil)))) (eCons (eFz (eOld (eCst (.str "schema")))) (eNil)))))
def F_demand_schema : Fn := mkFn 1 B_demand_schema
def B_names_in : ES := sPre [] (sRet (eCall dTuple (eCons (eFz (eComp [1, 2] (iSeq (eVar 0)) (.tp [.nm 1, .nm 2]) eYes (eVar 1))) (eNil))))
def F_names_in : Fn := mkFn 3 B_names_in
def B_width : ES := sPre [] (sRet (eIxM (eFz (eCall dDict (eCons (eVar 0) (eNil)))) (eVar 1)))
def F_width : Fn := mkFn 2 B_width
def B_place_in : ES := sPre [] (sRet (eOp dIndex (eFz (eCall dList (eCons (eFz (eFn F_names_in (eCons (eVar 0) (eNil)))) (eNil)))) (eVar 1)))
def F_place_in : Fn := mkFn 2 B_place_in
def B_is_row_of : ES := sPre [] (sRet (vAnd (tbB (eFz (eFn F_is_tuple (eCons (eVar 2) (eCons (eFz (eFn F_width (eCons (eVar 0) (eCons (eVar 1) (eNil))))) (eCons (eFz (eFn F_width (eCons (eVar 0) (eCons (eVar 1) (eNil))))) (eNil))))))) (eCall dAll (eCons (eFz (eComp [3] (iSeq (eVar 2)) (.nm 3) eYes (eFz (eFn F_is_cell (eCons (eVar 3) (eNil)))))) (eNil)))))
def F_is_row_of : Fn := mkFn 4 B_is_row_of
def B_is_part : ES := sSeq (sPre [] (sIf (eOr (eNot (tbV (eFz (eFn F_is_tuple (eCons (eVar 2) (eCons (eFz (eOld (eCst (.int 0)))) (eCons (eCst (.int 40)) (eNil)))))))) (eNot (tbV (eFz (eCall dAll (eCons (eFz (eComp [3] (iSeq (eVar 2)) (.nm 3) eYes (eFz (eFn F_is_row_of (eCons (eVar 0) (eCons (eVar 1) (eCons (eVar 3) (eNil)))))))) (eNil))))))) (sPre [] (sRet (eOld (eCst (.bl false))))) (sNx))) (sPre [] (sRet (eFn F_rises (eCons (eVar 2) (eNil)))))
def F_is_part : Fn := mkFn 4 B_is_part
def B_is_store : ES := sSeq (sPre [] (sEx (eFn F_demand_schema (eCons (eVar 0) (eNil))))) (sSeq (sPre [] (sIf (eNot (tbV (eFz (eFn F_is_tuple (eCons (eVar 1) (eCons (eFz (eCall dLen (eCons (eVar 0) (eNil)))) (eCons (eFz (eCall dLen (eCons (eVar 0) (eNil)))) (eNil)))))))) (sPre [] (sRet (eOld (eCst (.bl false))))) (sNx))) (sPre [] (sRet (eCall dAll (eCons (eFz (eComp [2, 3] (iSeq (eFz (eZipL (eCons (eVar 0) (eCons (eVar 1) (eNil)))))) (.tp [.nm 2, .nm 3]) eYes (eFz (eFn F_is_part (eCons (eVar 0) (eCons (eFz (eIxM (eVar 2) (eFz (eOld (eCst (.int 0)))))) (eCons (eVar 3) (eNil)))))))) (eNil))))))
def F_is_store : Fn := mkFn 4 B_is_store
def B_demand_store : ES := sPre [] (sEx (eFn F_demand (eCons (eFz (eFn F_is_store (eCons (eVar 0) (eCons (eVar 1) (eNil))))) (eCons (eVar 2) (eNil)))))
def F_demand_store : Fn := mkFn 3 B_demand_store
def B_part_of : ES := sPre [] (sRet (eIxM (eVar 1) (eFz (eFn F_place_in (eCons (eVar 0) (eCons (eVar 2) (eNil)))))))
def F_part_of : Fn := mkFn 3 B_part_of
def B_with_part : ES := sSeq (sPre [] (sIf (tbB (eFz (eOp dGt (eFz (eCall dLen (eCons (eVar 3) (eNil)))) (eCst (.int 40))))) (sNone) (sNx))) (sSeq (sPre [] (sSet 4 (eOld (eFz (eFn F_place_in (eCons (eVar 0) (eCons (eVar 2) (eNil)))))))) (sPre [] (sRet (eOp dAdd (eFz (eOp dAdd (eFz (eSl (eVar 1) (eNoP) (eSomeP (eVar 4)))) (eFz (eTup (eCons (eFz (eCall dTuple (eCons (eFz (eCall dSorted (eCons (eVar 3) (eNil)))) (eNil)))) (eNil)))))) (eFz (eSl (eVar 1) (eSomeP (eFz (eOp dAdd (eVar 4) (eFz (eOld (eCst (.int 1))))))) (eNoP)))))))
def F_with_part : Fn := mkFn 5 B_with_part
def B_put : ES := sSeq (sPre [] (sSet 4 (eOld (eFz (eFn F_part_of (eCons (eVar 0) (eCons (eVar 1) (eCons (eVar 2) (eNil))))))))) (sPre [] (sRet (eIf (tbB (eFz (eOp (dIn false) (eVar 3) (eVar 4)))) (eOld (eVar 1)) (eFn F_with_part (eCons (eVar 0) (eCons (eVar 1) (eCons (eVar 2) (eCons (eFz (eOp dAdd (eVar 4) (eFz (eTup (eCons (eVar 3) (eNil)))))) (eNil)))))))))
def F_put : Fn := mkFn 5 B_put
def B_take : ES := sSeq (sPre [] (sSet 4 (eOld (eFz (eFn F_part_of (eCons (eVar 0) (eCons (eVar 1) (eCons (eVar 2) (eNil))))))))) (sPre [] (sRet (eFn F_with_part (eCons (eVar 0) (eCons (eVar 1) (eCons (eVar 2) (eCons (eFz (eComp [5] (iSeq (eVar 4)) (.nm 5) (tbB (eFz (eOp dNe (eVar 5) (eVar 3)))) (eVar 5))) (eNil))))))))
def F_take : Fn := mkFn 6 B_take
def L_listed_1 : ES := sPre [] (sExt 2 (eFz (eComp [5] (iSeq (eVar 4)) (.nm 5) eYes (eFz (eTup (eCons (eVar 3) (eCons (eVar 5) (eNil))))))))
def B_listed : ES := sSeq (sPre [] (sSet 2 (eLst (eNil)))) (sSeq (sPre [] (sFor (iSeq (eFz (eZipL (eCons (eFz (eFn F_names_in (eCons (eVar 0) (eNil)))) (eCons (eVar 1) (eNil)))))) (.tp [.nm 3, .nm 4]) (L_listed_1))) (sPre [] (sRet (eCall dTuple (eCons (ePk 2) (eNil))))))
def F_listed : Fn := mkFn 6 B_listed
def L_gathered_1 : ES := sPre [] (sSet 2 (eOld (eFz (eFn F_put (eCons (eVar 0) (eCons (eVar 2) (eCons (eVar 4) (eCons (eVar 5) (eNil)))))))))
def B_gathered : ES := sSeq (sPre [] (sSet 2 (eOld (eFz (eCall dTuple (eCons (eFz (eComp [3] (iSeq (eVar 0)) (.nm 3) eYes (eFz (eTup (eNil))))) (eNil))))))) (sSeq (sPre [] (sFor (iSeq (eVar 1)) (.tp [.nm 4, .nm 5]) (L_gathered_1))) (sRetV 2))
def F_gathered : Fn := mkFn 6 B_gathered
def B_minus : ES := sPre [] (sRet (eCall dTuple (eCons (eFz (eComp [3] (iSeq (eFz (eFn F_listed (eCons (eVar 0) (eCons (eVar 1) (eNil)))))) (.nm 3) (tbB (eFz (eOp (dIn true) (eFz (eIxM (eVar 3) (eFz (eOld (eCst (.int 1)))))) (eFz (eFn F_part_of (eCons (eVar 0) (eCons (eVar 2) (eCons (eFz (eIxM (eVar 3) (eFz (eOld (eCst (.int 0)))))) (eNil))))))))) (eVar 3))) (eNil))))
def F_minus : Fn := mkFn 4 B_minus
end LW

set_option Elab.async false
set_option linter.all false
set_option maxRecDepth 100000
set_option maxHeartbeats 1000000
/-! P1: values, schemas, stores evaluated -/
namespace LW
open PySem PySem.Spec L2 R
abbrev Row := List Int
abbrev Sch := List (Str × Nat)
abbrev Sto := List (List Row)
def names (sch : Sch) : List Str := sch.map (·.1)
def width (sch : Sch) (t : Str) : Nat := (sch.lookup t).getD 0
def place (sch : Sch) (t : Str) : Nat := (names sch).idxOf t
def part (sch : Sch) (st : Sto) (t : Str) : List Row := st.getD (place sch t) []
def isRow (sch : Sch) (t : Str) (r : Row) : Bool := decide (r.length = width sch t) && r.all fun c => decide (0 ≤ c ∧ c ≤ 9)
abbrev leR (a b : Row) : Bool := decide (a ≤ b)
def sortR (rs : List Row) : List Row := rs.mergeSort leR
def withPart (sch : Sch) (st : Sto) (t : Str) (rs : List Row) : Sto := st.set (place sch t) (sortR rs)
def put (sch : Sch) (st : Sto) (t : Str) (r : Row) : Sto := if r ∈ part sch st t then st else withPart sch st t (part sch st t ++ [r])
def take (sch : Sch) (st : Sto) (t : Str) (r : Row) : Sto := withPart sch st t ((part sch st t).filter fun o => !decide (o = r))
def listed (sch : Sch) (st : Sto) : List (Str × Row) := ((names sch).zip st).flatMap fun p => p.2.map fun r => (p.1, r)
def empty (sch : Sch) : Sto := sch.map fun _ => []
def gathered (sch : Sch) (rs : List (Str × Row)) : Sto := rs.foldl (fun st p => put sch st p.1 p.2) (empty sch)
def minus (sch : Sch) (a b : Sto) : List (Str × Row) := (listed sch a).filter fun p => !decide (p.2 ∈ part sch b p.1)
theorem lim40 {n : Nat} (h : n ≤ 1000000) : n ≤ LIM := Nat.le_trans h (by decide)
section
variable {M : List MO} {sch : Sch} {st : Sto} {t : Str} {r : Row}
@[simp] theorem e_demand {d : D} : F_demand [.bl true, d] M = some ((.non, false), M) := by
  simp [F_demand, v_mkFn, B_demand]
@[simp] theorem e_is_in {v lo hi : Int} : F_is_in [.int v, .int lo, .int hi] M = some ((.bl (decide (lo ≤ v ∧ v ≤ hi)), false), M) := by
  simp [F_is_in, v_mkFn, B_is_in]
@[simp] theorem e_is_cell {v : Int} : F_is_cell [.int v] M = some ((.bl (decide (0 ≤ v ∧ v ≤ 9)), false), M) := by
  simp [F_is_cell, v_mkFn, B_is_cell]
@[simp] theorem e_is_tuple {α : Type} [Enc α] {xs : List α} {lo hi : Int} : F_is_tuple [Enc.e xs, .int lo, .int hi] M = some ((.bl (decide (lo ≤ (xs.length : Int) ∧ (xs.length : Int) ≤ hi)), false), M) := by
  simp [F_is_tuple, v_mkFn, B_is_tuple]
@[simp] theorem e_is_tuple2 {α β : Type} [Enc α] [Enc β] {p : α × β} : F_is_tuple [Enc.e p, .int 2, .int 2] M = some ((.bl true, false), M) := by
  simp [F_is_tuple, v_mkFn, B_is_tuple]
@[simp] theorem e_names_in (h : sch.length ≤ 4) : F_names_in [Enc.e sch] M = some ((Enc.e (names sch), false), M) := by
  simp [F_names_in, v_mkFn, B_names_in, compL_map, stepC, kC1, lim40 (n := sch.length) (by omega)]
  simp [names, e_list]
theorem pairs_sch : ∀ sch : Sch, dctPairs (sch.map Enc.e) = some (sch.map fun p => (Sum.inr p.1, .int (p.2 : Nat)))
  | [] => rfl
  | (a, b) :: sch => by
    rw [List.map_cons, e_pair, dctPairs, pairs_sch sch]
    rfl
theorem merge_new : ∀ (l : List (Key × D)) (ks : List Key) (ds : List D), (ks ++ l.map (·.1)).Nodup → dctMerge l ks ds = (ks ++ l.map (·.1), ds ++ l.map (·.2))
  | [], ks, ds, _ => by simp [dctMerge]
  | (k, d) :: l, ks, ds, h => by
    have hk : (ks.any fun j => decide (j = k)) = false := by
      rw [List.any_eq_false]
      intro j hj
      simp only [decide_eq_true_eq]
      intro e
      subst e
      exact (List.nodup_append.mp h).2.2 j hj j (by simp) rfl
    have ih := merge_new l (ks ++ [k]) (ds ++ [d]) (by simpa using h)
    unfold dctMerge at ih ⊢
    rw [List.foldl_cons, dctPut, if_neg (by rw [hk]; exact Bool.false_ne_true), ih]
    simp
theorem get_zip {α : Type} (f : α → D) : ∀ (l : List (Str × α)) (t : Str), dctGet (l.map fun p => (Sum.inr p.1 : Key)) (l.map fun p => f p.2) (.inr t) = (l.lookup t).map f
  | [], t => rfl
  | (a, b) :: l, t => by
    rw [List.map_cons, List.map_cons, dctGet, get_zip f l t, List.lookup_cons]
    by_cases h : a = t
    · subst h
      simp
    · have h' : ¬ (Sum.inr a : Key) = Sum.inr t := fun z => h (Sum.inr.inj z)
      have h2 : (t == a) = false := beq_eq_false_iff_ne.mpr fun z => h z.symm
      rw [if_neg h', h2]
theorem dict_sch (hn : (names sch).Nodup) : dDict [Enc.e sch] = some (.dct (sch.map fun p => Sum.inr p.1) (sch.map fun p => .int (p.2 : Nat)), true) := by
  show (dctPairs (sch.map Enc.e)).map _ = _
  rw [pairs_sch]
  have h : (([] : List Key) ++ (sch.map fun p => ((Sum.inr p.1 : Key), D.int (p.2 : Nat))).map (·.1)).Nodup := by
    rw [List.nil_append, List.map_map]
    have e : (sch.map ((fun x : Key × D => x.1) ∘ fun p => ((Sum.inr p.1 : Key), D.int (p.2 : Nat)))) = (names sch).map (fun x => (Sum.inr x : Key)) := by
      unfold names
      rw [List.map_map]
      rfl
    rw [e]
    exact List.Pairwise.map _ (fun a b h z => h (Sum.inr.inj z)) hn
  rw [Option.map_some, merge_new _ _ _ h]
  simp [Function.comp_def]
theorem lookup_mem : ∀ {sch : Sch} {t : Str}, t ∈ names sch → ∃ w, sch.lookup t = some w
  | [], t, h => by simp [names] at h
  | (a, b) :: sch, t, h => by
    rw [List.lookup_cons]
    by_cases e : t = a
    · subst e
      simp
    · have h2 : (t == a) = false := beq_eq_false_iff_ne.mpr e
      rw [h2]
      have h' : t ∈ names sch := by
        simp only [names, List.map_cons, List.mem_cons] at h
        rcases h with h | h
        · exact absurd h e
        · exact h
      exact lookup_mem h'
@[simp] theorem e_width (hn : (names sch).Nodup) (ht : t ∈ names sch) : F_width [Enc.e sch, .str t] M = some ((.int (width sch t : Nat), false), M) := by
  obtain ⟨w, hw⟩ := lookup_mem ht
  have g := get_zip (fun n : Nat => D.int n) sch t
  simp [F_width, v_mkFn, B_width, dict_sch hn, dIx, D.key, g, hw, width]
theorem ixOf_e {α : Type} [Enc α] [DecidableEq α] {a : α} : ∀ {xs : List α}, a ∈ xs → (Enc.e a).ixOf (xs.map Enc.e) = some (xs.idxOf a)
  | x :: xs, h => by
    rw [List.map_cons, D.ixOf, q_ee]
    by_cases e : x = a
    · subst e
      simp
    · have h' : a ∈ xs := by
        rcases List.mem_cons.mp h with h | h
        · exact absurd h.symm e
        · exact h
      have z2 : (x == a) = false := beq_eq_false_iff_ne.mpr e
      simp [e, ixOf_e h', List.idxOf_cons, z2]
theorem w_indexE {α : Type} [Enc α] [DecidableEq α] {a : α} {xs : List α} (hd : Enc.dp α ≤ 50) (h : a ∈ xs) : dIndex (eL xs) (Enc.e a) = some (.int (xs.idxOf a : Nat), false) := by
  show (if ((Enc.e a).pure && D.pures (xs.map Enc.e) && decide (D.depths (xs.map Enc.e) < 64) && decide ((Enc.e a).depth ≤ 64)) = true then ((Enc.e a).ixOf (xs.map Enc.e)).map fun j => (D.int (j : Nat), false) else none) = _
  obtain ⟨a1, a2⟩ := D.okd_ok (ok_e (a := a) hd)
  obtain ⟨b1, b2⟩ := D.okds_ok (ds := xs.map Enc.e) (n := 50) (by simp [hd])
  rw [a1, b1, if_pos (by simp; omega), ixOf_e h]
  rfl
@[simp] theorem e_place_in (h4 : sch.length ≤ 4) (ht : t ∈ names sch) : F_place_in [Enc.e sch, .str t] M = some ((.int (place sch t : Nat), false), M) := by
  have z := w_indexE (α := Str) (by decide) ht
  rw [e_str] at z
  simp [F_place_in, v_mkFn, B_place_in, h4, z, place]
@[simp] theorem e_is_row_of (hn : (names sch).Nodup) (ht : t ∈ names sch) (hl : r.length ≤ 40) : F_is_row_of [Enc.e sch, .str t, Enc.e r] M = some ((.bl (isRow sch t r), false), M) := by
  have h1 := lim40 (n := r.length) (by omega)
  simp [F_is_row_of, v_mkFn, B_is_row_of, hn, ht, compL_map, stepC, kC1, h1]
  unfold isRow
  by_cases h : r.length = width sch t
  · simp [h]
  · have h2 : ¬ (width sch t ≤ r.length ∧ r.length ≤ width sch t) := by omega
    simp [h, h2]
theorem pys_e {α : Type} [Enc α] : ∀ xs : List α, D.pys (xs.map Enc.e) = xs.map fun a => (Enc.e a).py
  | [] => rfl
  | x :: xs => by rw [List.map_cons, D.pys, pys_e xs, List.map_cons]
theorem py_row (r : Row) : (Enc.e r).py = .tuple (r.map .int) := by
  rw [e_list, D.py, pys_e]
  rfl
theorem alike_ints : ∀ x y : List Int, PySem.W.alikeAll (x.map .int) (y.map .int) = true
  | [], y => by simp [PySem.W.alikeAll]
  | a :: x, [] => by simp [PySem.W.alikeAll]
  | a :: x, b :: y => by
    show (PySem.W.alike (.int a) (.int b) && PySem.W.alikeAll (x.map .int) (y.map .int)) = true
    rw [alike_ints x y]
    rfl
theorem alike_rows (x y : Row) : PySem.W.alike (Enc.e x).py (Enc.e y).py = true := by
  rw [py_row, py_row, PySem.W.alike]
  exact alike_ints x y
theorem lt_rows (x y : Row) : PySem.W.dataLt (Enc.e x).py (Enc.e y).py = decide (x < y) := by
  rw [py_row, py_row, PySem.W.dataLt_tuple]
  exact PySem.W.dataLt_ints ..
theorem le_rows (x y : Row) : D.le (Enc.e x) (Enc.e y) = leR x y := by
  show (!PySem.W.dataLt (Enc.e y).py (Enc.e x).py) = _
  rw [lt_rows]
  unfold leR
  by_cases h : y < x
  · have h' : ¬ x ≤ y := fun r => List.not_lt.mpr r h
    simp [h, h']
  · have h' : x ≤ y := List.not_lt.mp h
    simp [h, h']
theorem okOrd_rows (x y : Row) : okOrd (Enc.e x) (Enc.e y) = true := by
  obtain ⟨a1, a2⟩ := D.okd_ok (ok_e (a := x) (n := 1) (by decide))
  obtain ⟨b1, b2⟩ := D.okd_ok (ok_e (a := y) (n := 1) (by decide))
  unfold okOrd
  rw [a1, b1, alike_rows, e_list, e_list]
  rw [e_list] at a2
  simp
  omega
@[simp] theorem w_ltR {x y : Row} : dLt (Enc.e x) (Enc.e y) = some (.bl (decide (x < y)), false) := by
  show (if okOrd (Enc.e x) (Enc.e y) = true then some (D.bl (PySem.W.dataLt (Enc.e x).py (Enc.e y).py), false) else none) = _
  rw [if_pos (okOrd_rows x y), lt_rows]
@[simp] theorem cut_m1 {α : Type} {xs : List α} : cutD xs none (some (-1)) = xs.dropLast := by
  unfold cutD
  rw [HT.sIx_none, List.drop_zero, Nat.sub_zero, List.dropLast_eq_take]
  congr 1
  show (if (-1 : Int) < 0 then ((-1 : Int) + (xs.length : Int)).toNat else min (-1 : Int).toNat xs.length) = _
  rw [if_pos (by decide)]
  omega
@[simp] theorem cut_1 {α : Type} {xs : List α} : cutD xs (some 1) none = xs.tail := by
  have z := cut_drop xs 1
  rw [← List.drop_one]
  exact z
@[simp] theorem w_neg {a : Int} : dNeg (.int a) = some (.int (-a), false) := id rfl
/-- rising, one behind the other -/
def rising {α : Type} (lt : α → α → Bool) (xs : List α) : Bool := (xs.dropLast.zip xs.tail).all fun p => lt p.1 p.2
theorem rising_iff {α : Type} {lt : α → α → Bool} (tr : ∀ a b c, lt a b = true → lt b c = true → lt a c = true) : ∀ {xs : List α}, rising lt xs = true ↔ xs.Pairwise fun a b => lt a b = true
  | [] => by simp [rising]
  | [x] => by simp [rising]
  | x :: y :: xs => by
    have ih := rising_iff tr (xs := y :: xs)
    have e : rising lt (x :: y :: xs) = (lt x y && rising lt (y :: xs)) := by simp [rising]
    rw [e, Bool.and_eq_true, ih, List.pairwise_cons (a := x)]
    constructor
    · rintro ⟨h1, h2⟩
      refine ⟨fun b hb => ?_, h2⟩
      rcases List.mem_cons.mp hb with rfl | hb
      · exact h1
      · exact tr _ _ _ h1 ((List.pairwise_cons.mp h2).1 b hb)
    · rintro ⟨h1, h2⟩
      exact ⟨h1 y (List.mem_cons_self ..), h2⟩
theorem zipD_e {α β : Type} [Enc α] [Enc β] {xs : List α} {ys : List β} : zipD (xs.map Enc.e) (ys.map Enc.e) = (xs.zip ys).map Enc.e := by
  rw [zipD_map]
  rfl
@[simp] theorem e_risesR {xs : List Row} (h : xs.length ≤ 1000) : F_rises [Enc.e xs] M = some ((.bl (rising (fun a b => decide (a < b)) xs), false), M) := by
  have h1 : xs.length ≤ LIM + 1 := Nat.le_succ_of_le (lim40 (by omega))
  simp [F_rises, v_mkFn, B_rises, zipD_e, compL_map, stepC, kC1, h1, -List.map_dropLast, -List.map_tail]
  rfl
/-- what a store's rows of a table are -/
def PartOk (sch : Sch) (t : Str) (rs : List Row) : Prop := rs.length ≤ 40 ∧ (∀ r ∈ rs, isRow sch t r = true) ∧ rs.Pairwise (· < ·)
theorem rising_rows {xs : List Row} : rising (fun a b => decide (a < b)) xs = true ↔ xs.Pairwise (· < ·) := by
  rw [rising_iff fun a b c h1 h2 => by
    simp only [decide_eq_true_eq] at h1 h2 ⊢
    exact List.lt_trans h1 h2]
  simp
theorem isRow_len {sch : Sch} {t : Str} {r : Row} (h : isRow sch t r = true) : r.length = width sch t := by
  unfold isRow at h
  rw [Bool.and_eq_true, decide_eq_true_eq] at h
  exact h.1
@[simp] theorem e_is_part (hn : (names sch).Nodup) (ht : t ∈ names sch) {rs : List Row} (hl : rs.length ≤ 1000) (hr : ∀ r ∈ rs, r.length ≤ 40) : F_is_part [Enc.e sch, .str t, Enc.e rs] M = some ((.bl (decide (rs.length ≤ 40) && (rs.all (isRow sch t) && rising (fun a b => decide (a < b)) rs)), false), M) := by
  have h1 := lim40 (n := rs.length) (by omega)
  by_cases h40 : rs.length ≤ 40
  · have h40' : ¬ (40 : Int) < rs.length := by omega
    simp +contextual [F_is_part, v_mkFn, B_is_part, hn, ht, compL_map, stepC, kC1, h1, hl, hr, h40, h40']
    cases h : rs.all (isRow sch t)
    · have h' : ∃ x ∈ rs, isRow sch t x = false := by simpa using h
      simp [h']
    · have h' : ¬ ∃ x ∈ rs, isRow sch t x = false := by
        intro ⟨x, a, b⟩
        have := List.all_eq_true.mp h x a
        rw [b] at this
        cases this
      simp [h']
  · have h40' : (40 : Int) < rs.length := by omega
    simp [F_is_part, v_mkFn, B_is_part, hn, ht, h40, h40']
@[simp] theorem w_ltS {a b : Str} : dLt (.str a) (.str b) = some (.bl (ltS a b), false) := id rfl
theorem ltS_irr (a : Str) : ltS a a = false := by
  unfold ltS
  simp
theorem ltS_tr (a b c : Str) (h : ltS a b = true) (h2 : ltS b c = true) : ltS a c = true := by
  unfold ltS at h h2 ⊢
  simp only [decide_eq_true_eq] at h h2 ⊢
  exact List.lt_trans h h2
@[simp] theorem e_risesS {xs : List Str} (h : xs.length ≤ 1000) : F_rises [Enc.e xs] M = some ((.bl (rising ltS xs), false), M) := by
  have h1 : xs.length ≤ LIM + 1 := Nat.le_succ_of_le (lim40 (by omega))
  simp [F_rises, v_mkFn, B_rises, zipD_e, compL_map, stepC, kC1, h1, -List.map_dropLast, -List.map_tail]
  rfl
end
section
variable {M : List MO}
@[simp] theorem e_risesSL {α : Type} {l : List α} {g : α → Str} (h : l.length ≤ 1000) : F_rises [.lst (l.map fun a => .str (g a))] M = some ((.bl (rising ltS (l.map g)), false), M) := by
  have e : D.lst (l.map fun a => .str (g a)) = eL (l.map g) := by
    unfold eL
    rw [List.map_map]
    rfl
  rw [e]
  have h1 : (l.map g).length ≤ LIM + 1 := by
    rw [List.length_map]
    exact Nat.le_succ_of_le (lim40 (by omega))
  generalize l.map g = xs at h1
  simp [F_rises, v_mkFn, B_rises, zipD_e, compL_map, stepC, kC1, h1, -List.map_dropLast, -List.map_tail]
  rfl
end
structure SchOk (sch : Sch) : Prop where
  l1 : 1 ≤ sch.length
  l4 : sch.length ≤ 4
  word : ∀ p ∈ sch, ∀ M, F_is_word [.str p.1] M = some ((.bl true, false), M)
  wid : ∀ p ∈ sch, 1 ≤ p.2 ∧ p.2 ≤ 4
  ris : (names sch).Pairwise fun a b => ltS a b = true
theorem SchOk.nd {sch : Sch} (h : SchOk sch) : (names sch).Nodup := h.ris.imp fun {a b} q e => by
  subst e
  rw [ltS_irr] at q
  cases q
structure StoOk (sch : Sch) (st : Sto) : Prop where
  len : st.length = sch.length
  ok : ∀ t ∈ names sch, PartOk sch t (part sch st t)
theorem width_mem {sch : Sch} (hn : (names sch).Nodup) {p : Str × Nat} (h : p ∈ sch) : width sch p.1 = p.2 := by
  unfold width
  induction sch with
  | nil => cases h
  | cons q sch ih =>
    rw [List.lookup_cons]
    have hn' := List.nodup_cons.mp hn
    rcases List.mem_cons.mp h with rfl | h
    · simp
    · have hne : p.1 ≠ q.1 := fun e => hn'.1 (by
        show q.1 ∈ List.map (fun x => x.1) sch
        rw [← e]
        exact List.mem_map_of_mem h)
      have h2 : (p.1 == q.1) = false := beq_eq_false_iff_ne.mpr hne
      rw [h2]
      exact ih hn'.2 h
theorem SchOk.w {sch : Sch} (h : SchOk sch) {t : Str} (ht : t ∈ names sch) : 1 ≤ width sch t ∧ width sch t ≤ 4 := by
  obtain ⟨p, hp, rfl⟩ := List.mem_map.mp ht
  rw [width_mem h.nd hp]
  exact h.wid p hp
theorem place_lt {sch : Sch} {t : Str} (ht : t ∈ names sch) : place sch t < sch.length := by
  have := List.idxOf_lt_length_of_mem ht
  simpa [place, names] using this
theorem part_zip {sch : Sch} {st : Sto} (hn : (names sch).Nodup) : ∀ {p : Str × Nat} {rs : List Row}, (p, rs) ∈ sch.zip st → p.1 ∈ names sch ∧ part sch st p.1 = rs := by
  intro p rs h
  obtain ⟨i, hi, e⟩ := List.mem_iff_getElem.mp h
  rw [List.getElem_zip] at e
  simp only [Prod.mk.injEq] at e
  rw [List.length_zip] at hi
  have h1 : i < sch.length := by omega
  have h2 : i < st.length := by omega
  have hm : p.1 = (names sch)[i]'(by simpa [names] using h1) := by
    rw [← e.1]
    simp [names]
  have hp : place sch p.1 = i := by
    unfold place
    rw [hm]
    exact List.Nodup.idxOf_getElem hn i (by simpa [names] using h1)
  refine ⟨by rw [hm]; exact List.getElem_mem _, ?_⟩
  unfold part
  rw [hp, List.getD_eq_getElem?_getD, List.getElem?_eq_getElem h2, ← e.2]
  rfl
theorem StoOk.row {sch : Sch} {st : Sto} (s : StoOk sch st) (h : SchOk sch) {t : Str} (ht : t ∈ names sch) {r : Row} (hr : r ∈ part sch st t) : isRow sch t r = true ∧ r.length ≤ 4 ∧ r ≠ [] := by
  have z := (s.ok t ht).2.1 r hr
  have l := isRow_len z
  have w := h.w ht
  refine ⟨z, by omega, fun e => ?_⟩
  rw [e] at l
  simp at l
  omega
section
variable {M : List MO} {sch : Sch} {st : Sto} {t : Str} {r : Row}
@[simp] theorem e_is_schema (h : SchOk sch) : F_is_schema [Enc.e sch] M = some ((.bl true, false), M) := by
  have h1 := lim40 (n := sch.length) (by have := h.l4; omega)
  have hl1 : (1 : Int) ≤ sch.length := by have := h.l1; omega
  have hl4 : (sch.length : Int) ≤ 4 := by have := h.l4; omega
  have ht : ∀ p ∈ sch, ∀ M, F_is_table [Enc.e p] M = some ((.bl true, false), M) := fun p hp M => by
    have w := h.wid p hp
    have w1 : (1 : Int) ≤ p.2 := by omega
    have w4 : (p.2 : Int) ≤ 4 := by omega
    simp [F_is_table, v_mkFn, B_is_table, h.word p hp, w1, w4]
  have hr : rising ltS (sch.map (·.1)) = true := (rising_iff ltS_tr).mpr h.ris
  have h1000 : sch.length ≤ 1000 := by have := h.l4; omega
  simp +contextual [F_is_schema, v_mkFn, B_is_schema, compL_map, stepC, kC1, h1, hl1, hl4, ht, h1000, hr]
@[simp] theorem e_demand_schema (h : SchOk sch) : F_demand_schema [Enc.e sch] M = some ((.non, false), M) := by
  simp [F_demand_schema, v_mkFn, B_demand_schema, h]
@[simp] theorem e_is_store (h : SchOk sch) (s : StoOk sch st) : F_is_store [Enc.e sch, Enc.e st] M = some ((.bl true, false), M) := by
  have h1 := lim40 (n := sch.length) (by have := h.l4; omega)
  have h2 := s.len
  have key : ∀ q ∈ sch.zip st, ∀ M, F_is_part [Enc.e sch, .str q.1.1, Enc.e q.2] M = some ((.bl true, false), M) := fun q hq M => by
    obtain ⟨ht, hp⟩ := part_zip h.nd (p := q.1) (rs := q.2) hq
    obtain ⟨a, b, c⟩ := s.ok _ ht
    rw [hp] at a b c
    have hr : ∀ r ∈ q.2, List.length r ≤ 40 := fun r hr => by
      have := isRow_len (b r hr)
      have := (h.w ht).2
      omega
    have b' : q.2.all (isRow sch q.1.1) = true := List.all_eq_true.mpr b
    have c' := rising_rows.mpr c
    rw [e_is_part h.nd ht (by omega) hr, b', c']
    simp [a]
  simp +contextual [F_is_store, v_mkFn, B_is_store, zipD_e, compL_map, stepC, kC1, h, h1, h2, key]
@[simp] theorem e_demand_store (h : SchOk sch) (s : StoOk sch st) {n : Str} : F_demand_store [Enc.e sch, Enc.e st, .str n] M = some ((.non, false), M) := by
  simp [F_demand_store, v_mkFn, B_demand_store, h, s]
theorem atI_part (h : SchOk sch) (s : StoOk sch st) (ht : t ∈ names sch) : atI st (place sch t : Nat) = some (part sch st t) := by
  have := place_lt ht
  have := s.len
  rw [atI_lt (by omega)]
  unfold part
  rw [List.getD_eq_getElem?_getD, List.getElem?_eq_getElem (by omega)]
  rfl
@[simp] theorem e_part_of (h : SchOk sch) (s : StoOk sch st) (ht : t ∈ names sch) : F_part_of [Enc.e sch, Enc.e st, .str t] M = some ((Enc.e (part sch st t), false), M) := by
  simp [F_part_of, v_mkFn, B_part_of, h.l4, ht, atI_part h s ht]
theorem w_sortR {rs : List Row} (h : ∀ r ∈ rs, r ≠ []) : sortD (rs.map Enc.e) = some (eL (sortR rs), true) := by
  unfold sortD
  have hc : sortC (rs.map Enc.e) = true := by
    unfold sortC
    have h1 : D.alikeB (rs.map Enc.e) = true := List.all_eq_true.mpr fun d hd => List.all_eq_true.mpr fun e he => by
      obtain ⟨x, _, rfl⟩ := List.mem_map.mp hd
      obtain ⟨y, _, rfl⟩ := List.mem_map.mp he
      exact alike_rows x y
    have h2 : D.sortB (rs.map Enc.e) = true := by
      unfold D.sortB
      rw [Bool.or_eq_true]
      refine .inl (List.all_eq_true.mpr fun d hd => ?_)
      obtain ⟨x, hx, rfl⟩ := List.mem_map.mp hd
      cases x with
      | nil => exact absurd rfl (h _ hx)
      | cons a x => rfl
    have h3 : ((rs.map Enc.e).all fun d => d.pure && decide (d.depth ≤ 64)) = true := List.all_eq_true.mpr fun d hd => by
      obtain ⟨x, _, rfl⟩ := List.mem_map.mp hd
      obtain ⟨a, b⟩ := D.okd_ok (ok_e (a := x) (n := 1) (by decide))
      rw [a]
      simp
      omega
    rw [h1, h2, h3]
    simp
  rw [if_pos hc]
  have e := List.map_mergeSort (r := leR) (s := D.le) (f := Enc.e) (l := rs) (fun a _ b _ => (le_rows a b).symm)
  rw [← e]
  rfl
@[simp] theorem w_sortedR {rs : List Row} (h : [] ∉ rs) : dSorted [Enc.e rs] = some (eL (sortR rs), true) := w_sortR fun r hr e => h (e ▸ hr)
@[simp] theorem w_sortedRL {rs : List Row} (h : [] ∉ rs) : dSorted [eL rs] = some (eL (sortR rs), true) := w_sortR fun r hr e => h (e ▸ hr)
theorem set_cut {α : Type} {xs : List α} {i : Nat} (h : i < xs.length) (a : α) : cutD xs none (some (i : Int)) ++ [a] ++ cutD xs (some ((i : Int) + 1)) none = xs.set i a := by
  have z := cut_drop xs (i + 1)
  rw [cut_take, show ((i : Int) + 1) = ((i + 1 : Nat) : Int) by omega, z, List.set_eq_take_append_cons_drop, if_pos h]
  simp
theorem len_set {xs : Sto} {i : Nat} {a : List Row} : (xs.set i a).length = xs.length := List.length_set
theorem e_with_part' (h : SchOk sch) (s : StoOk sch st) (ht : t ∈ names sch) {rs : List Row} (hl : rs.length ≤ 40) (hr : [] ∉ rs) {d : D} (hd : d = Enc.e rs ∨ d = eL rs) : F_with_part [Enc.e sch, Enc.e st, .str t, d] M = some ((Enc.e (withPart sch st t rs), false), M) := by
  have h4 := h.l4
  have hp := place_lt ht
  have hs := s.len
  have e := set_cut (xs := st) (i := place sch t) (by omega) (sortR rs)
  have l1 : (cutD st none (some (place sch t : Int))).length + 1 ≤ LIM := lim40 (by rw [cut_take, List.length_take]; omega)
  have l2 : (cutD st none (some (place sch t : Int)) ++ [sortR rs]).length + (cutD st (some ((place sch t : Int) + 1)) none).length ≤ LIM := lim40 (by
    rw [← List.length_append, e, List.length_set]
    omega)
  have hl' : ¬ (40 : Int) < rs.length := by omega
  have e1 : D.tup [Enc.e (sortR rs)] = Enc.e [sortR rs] := rfl
  have a1 := E_add (xs := cutD st none (some (place sch t : Int))) (ys := [sortR rs]) l1
  have a2 := E_add l2
  rw [e] at a2
  rcases hd with rfl | rfl
  · simp [F_with_part, v_mkFn, B_with_part, h4, ht, hl', hr, e1, a1, a2, show (1 : Nat) ≤ LIM from lim40 (by decide)]
    rfl
  · simp [F_with_part, v_mkFn, B_with_part, h4, ht, hl', hr, e1, a1, a2, show (1 : Nat) ≤ LIM from lim40 (by decide)]
    rfl
@[simp] theorem e_with_part (h : SchOk sch) (s : StoOk sch st) (ht : t ∈ names sch) {rs : List Row} (hl : rs.length ≤ 40) (hr : [] ∉ rs) : F_with_part [Enc.e sch, Enc.e st, .str t, Enc.e rs] M = some ((Enc.e (withPart sch st t rs), false), M) := e_with_part' h s ht hl hr (.inl rfl)
@[simp] theorem e_with_partL (h : SchOk sch) (s : StoOk sch st) (ht : t ∈ names sch) {rs : List Row} (hl : rs.length ≤ 40) (hr : [] ∉ rs) : F_with_part [Enc.e sch, Enc.e st, .str t, eL rs] M = some ((Enc.e (withPart sch st t rs), false), M) := e_with_part' h s ht hl hr (.inr rfl)
theorem no_nil (h : SchOk sch) (s : StoOk sch st) (ht : t ∈ names sch) : [] ∉ part sch st t := fun hr => (s.row h ht hr).2.2 rfl
@[simp] theorem e_put (h : SchOk sch) (s : StoOk sch st) (ht : t ∈ names sch) (hr : r ≠ []) (room : r ∈ part sch st t ∨ (part sch st t).length < 40) : F_put [Enc.e sch, Enc.e st, .str t, Enc.e r] M = some ((Enc.e (put sch st t r), false), M) := by
  unfold put
  have n := no_nil h s ht
  by_cases hm : r ∈ part sch st t
  · simp [F_put, v_mkFn, B_put, h, s, ht, hm]
  · have l : (part sch st t).length < 40 := room.resolve_left hm
    have e1 : D.tup [Enc.e r] = Enc.e [r] := rfl
    have a1 := E_add (xs := part sch st t) (ys := [r]) (lim40 (by simp; omega))
    have n' : [] ∉ part sch st t ++ [r] := by simp [n, Ne.symm hr]
    have l' : (part sch st t ++ [r]).length ≤ 40 := by simp; omega
    simp [F_put, v_mkFn, B_put, h, s, ht, hm, e1, a1, show (1 : Nat) ≤ LIM from lim40 (by decide), e_with_part h s ht l' n']
theorem part_len (s : StoOk sch st) (ht : t ∈ names sch) : (part sch st t).length ≤ 40 := (s.ok t ht).1
@[simp] theorem e_take (h : SchOk sch) (s : StoOk sch st) (ht : t ∈ names sch) : F_take [Enc.e sch, Enc.e st, .str t, Enc.e r] M = some ((Enc.e (take sch st t r), false), M) := by
  have n := no_nil h s ht
  have l := part_len s ht
  have l2 := List.length_filter_le (fun o => !decide (o = r)) (part sch st t)
  have n' : [] ∉ (part sch st t).filter fun o => !decide (o = r) := fun z => n (List.mem_filter.mp z).1
  have l1 := lim40 (n := ((part sch st t).filter fun o => !decide (o = r)).length) (by omega)
  have z := e_with_partL (M := M) h s ht (rs := (part sch st t).filter fun o => !decide (o = r)) (by omega) n'
  have e : D.lst (((part sch st t).filter fun o => !decide (o = r)).map fun a => Enc.e a) = eL ((part sch st t).filter fun o => !decide (o = r)) := rfl
  simp [F_take, v_mkFn, B_take, h, s, ht, compL_map, stepC, kC1, l1]
  rw [e, z]
  rfl
end
end LW

set_option Elab.async false
set_option linter.all false
set_option maxRecDepth 100000
set_option maxHeartbeats 1000000
/-! P2: stores, told by what they have -/
namespace LW
open PySem PySem.Spec L2 R
theorem mem_sortR {rs : List Row} {r : Row} : r ∈ sortR rs ↔ r ∈ rs := by
  unfold sortR
  exact List.mem_mergeSort
theorem len_sortR {rs : List Row} : (sortR rs).length = rs.length := List.length_mergeSort _
theorem sortR_pw {rs : List Row} (hn : rs.Nodup) : (sortR rs).Pairwise (· < ·) := by
  have s : (sortR rs).Pairwise fun a b => leR a b = true := List.pairwise_mergeSort (fun a b c h1 h2 => by
    unfold leR at h1 h2 ⊢
    simp only [decide_eq_true_eq] at h1 h2 ⊢
    exact List.le_trans h1 h2) (fun a b => by
    unfold leR
    simp only [Bool.or_eq_true, decide_eq_true_eq]
    exact List.le_total a b) rs
  have n : (sortR rs).Nodup := (List.mergeSort_perm rs leR).nodup_iff.mpr hn
  refine (s.and n).imp fun {a b} h => ?_
  have h1 : a ≤ b := by simpa [leR] using h.1
  rcases List.le_iff_lt_or_eq.mp h1 with z | z
  · exact z
  · exact absurd z h.2
theorem pw_nodup {rs : List Row} (h : rs.Pairwise (· < ·)) : rs.Nodup := h.imp fun {a b} q e => by
  subst e
  exact List.lt_irrefl a q
/-- rising rows are told by their members -/
theorem pw_ext : ∀ {xs ys : List Row}, xs.Pairwise (· < ·) → ys.Pairwise (· < ·) → (∀ r, r ∈ xs ↔ r ∈ ys) → xs = ys
  | [], [], _, _, _ => rfl
  | [], y :: ys, _, _, h => absurd ((h y).mpr (List.mem_cons_self ..)) (by simp)
  | x :: xs, [], _, _, h => absurd ((h x).mp (List.mem_cons_self ..)) (by simp)
  | x :: xs, y :: ys, hx, hy, h => by
    have hx' := List.pairwise_cons.mp hx
    have hy' := List.pairwise_cons.mp hy
    have e : x = y := by
      rcases List.mem_cons.mp ((h x).mp (List.mem_cons_self ..)) with z | z
      · exact z
      · rcases List.mem_cons.mp ((h y).mpr (List.mem_cons_self ..)) with w | w
        · exact w.symm
        · exact absurd (List.lt_trans (hy'.1 x z) (hx'.1 y w)) (List.lt_irrefl y)
    subst e
    rw [pw_ext hx'.2 hy'.2 fun r => ?_]
    constructor
    · intro hr
      rcases List.mem_cons.mp ((h r).mp (List.mem_cons_of_mem _ hr)) with z | z
      · exact absurd (z ▸ hx'.1 r hr) (List.lt_irrefl _)
      · exact z
    · intro hr
      rcases List.mem_cons.mp ((h r).mpr (List.mem_cons_of_mem _ hr)) with z | z
      · exact absurd (z ▸ hy'.1 r hr) (List.lt_irrefl _)
      · exact z
section
variable {sch : Sch} {st st' : Sto} {t t' : Str} {r r' : Row}
theorem place_inj (ht : t ∈ names sch) (ht' : t' ∈ names sch) (h : place sch t = place sch t') : t = t' := by
  unfold place at h
  have a := List.getElem_idxOf (List.idxOf_lt_length_of_mem ht)
  have b := List.getElem_idxOf (List.idxOf_lt_length_of_mem ht')
  rw [← a, ← b]
  congr 1
theorem part_set (hl : st.length = sch.length) (ht : t ∈ names sch) (ht' : t' ∈ names sch) {rs : List Row} : part sch (st.set (place sch t) rs) t' = if t' = t then rs else part sch st t' := by
  have hp := place_lt ht
  unfold part
  rw [List.getD_eq_getElem?_getD, List.getD_eq_getElem?_getD]
  by_cases e : t' = t
  · subst e
    rw [List.getElem?_set_self (by omega), if_pos rfl]
    rfl
  · have hne : place sch t ≠ place sch t' := fun z => e (place_inj ht' ht z.symm)
    rw [List.getElem?_set_ne hne, if_neg e]
theorem part_with (hl : st.length = sch.length) (ht : t ∈ names sch) (ht' : t' ∈ names sch) {rs : List Row} : part sch (withPart sch st t rs) t' = if t' = t then sortR rs else part sch st t' := part_set hl ht ht'
theorem withPart_ok (s : StoOk sch st) (ht : t ∈ names sch) {rs : List Row} (h1 : rs.length ≤ 40) (h2 : ∀ r ∈ rs, isRow sch t r = true) (h3 : rs.Nodup) : StoOk sch (withPart sch st t rs) := by
  refine ⟨by unfold withPart; rw [List.length_set]; exact s.len, fun t' ht' => ?_⟩
  rw [part_with s.len ht ht']
  by_cases e : t' = t
  · subst e
    rw [if_pos rfl]
    exact ⟨by rw [len_sortR]; exact h1, fun r hr => h2 r (mem_sortR.mp hr), sortR_pw h3⟩
  · rw [if_neg e]
    exact s.ok t' ht'
theorem put_ok (s : StoOk sch st) (ht : t ∈ names sch) (hr : isRow sch t r = true) (room : r ∈ part sch st t ∨ (part sch st t).length < 40) : StoOk sch (put sch st t r) := by
  unfold put
  by_cases hm : r ∈ part sch st t
  · rw [if_pos hm]
    exact s
  · rw [if_neg hm]
    obtain ⟨a, b, c⟩ := s.ok t ht
    refine withPart_ok s ht (by rw [List.length_append]; have := room.resolve_left hm; simp; omega) (fun x hx => ?_) ?_
    · rcases List.mem_append.mp hx with z | z
      · exact b x z
      · rw [List.mem_singleton.mp z]
        exact hr
    · rw [List.nodup_append]
      refine ⟨pw_nodup c, by simp, fun x hx y hy e => ?_⟩
      rw [List.mem_singleton.mp hy] at e
      exact hm (e ▸ hx)
theorem mem_put (s : StoOk sch st) (ht : t ∈ names sch) (ht' : t' ∈ names sch) : r' ∈ part sch (put sch st t r) t' ↔ (t' = t ∧ r' = r) ∨ r' ∈ part sch st t' := by
  unfold put
  by_cases hm : r ∈ part sch st t
  · rw [if_pos hm]
    constructor
    · exact .inr
    · rintro (⟨rfl, rfl⟩ | h)
      · exact hm
      · exact h
  · rw [if_neg hm, part_with s.len ht ht']
    by_cases e : t' = t
    · subst e
      rw [if_pos rfl, mem_sortR, List.mem_append, List.mem_singleton]
      constructor
      · rintro (h | h)
        · exact .inr h
        · exact .inl ⟨rfl, h⟩
      · rintro (⟨_, h⟩ | h)
        · exact .inr h
        · exact .inl h
    · rw [if_neg e]
      constructor
      · exact .inr
      · rintro (⟨h, _⟩ | h)
        · exact absurd h e
        · exact h
theorem take_ok (s : StoOk sch st) (ht : t ∈ names sch) : StoOk sch (take sch st t r) := by
  obtain ⟨a, b, c⟩ := s.ok t ht
  refine withPart_ok s ht (Nat.le_trans (List.length_filter_le _ _) a) (fun x hx => b x (List.mem_filter.mp hx).1) ?_
  exact (pw_nodup c).filter _
theorem mem_take (s : StoOk sch st) (ht : t ∈ names sch) (ht' : t' ∈ names sch) : r' ∈ part sch (take sch st t r) t' ↔ ¬ (t' = t ∧ r' = r) ∧ r' ∈ part sch st t' := by
  unfold take
  rw [part_with s.len ht ht']
  by_cases e : t' = t
  · subst e
    rw [if_pos rfl, mem_sortR, List.mem_filter]
    simp [and_comm]
  · rw [if_neg e]
    simp [e]
theorem part_len_put (s : StoOk sch st) (ht : t ∈ names sch) (ht' : t' ∈ names sch) : (part sch (put sch st t r) t').length ≤ (part sch st t').length + if t' = t then 1 else 0 := by
  unfold put
  by_cases hm : r ∈ part sch st t
  · rw [if_pos hm]
    omega
  · rw [if_neg hm, part_with s.len ht ht']
    by_cases e : t' = t
    · subst e
      rw [if_pos rfl, if_pos rfl, len_sortR]
      simp
    · rw [if_neg e, if_neg e]
      omega
theorem empty_part : part sch (empty sch) t = [] := by
  unfold part empty
  rw [List.getD_eq_getElem?_getD, List.getElem?_map]
  cases sch[place sch t]? <;> rfl
theorem empty_ok : StoOk sch (empty sch) := ⟨by simp [empty], fun t ht => by rw [empty_part]; exact ⟨by simp, by simp, .nil⟩⟩
theorem part_at (hn : (names sch).Nodup) {i : Nat} (hi : i < sch.length) : part sch st sch[i].1 = st.getD i [] := by
  unfold part place
  have e : sch[i].1 = (names sch)[i]'(by simpa [names] using hi) := by simp [names]
  rw [e, List.Nodup.idxOf_getElem hn i (by simpa [names] using hi)]
theorem sto_ext (hn : (names sch).Nodup) (s : StoOk sch st) (s' : StoOk sch st') (h : ∀ t ∈ names sch, ∀ r, r ∈ part sch st t ↔ r ∈ part sch st' t) : st = st' := by
  have l := s.len
  have l' := s'.len
  refine List.ext_getElem (by omega) fun i h1 h2 => ?_
  have hi : i < sch.length := by omega
  have hm : sch[i].1 ∈ names sch := List.mem_map_of_mem (List.getElem_mem _)
  have e := pw_ext (s.ok _ hm).2.2 (s'.ok _ hm).2.2 (h _ hm)
  rw [part_at hn hi, part_at hn hi, List.getD_eq_getElem?_getD, List.getD_eq_getElem?_getD, List.getElem?_eq_getElem h1, List.getElem?_eq_getElem h2] at e
  exact e
theorem mem_listed (hn : (names sch).Nodup) (s : st.length = sch.length) : (t, r) ∈ listed sch st ↔ t ∈ names sch ∧ r ∈ part sch st t := by
  unfold listed
  rw [List.mem_flatMap]
  constructor
  · rintro ⟨⟨x, rs⟩, h1, h2⟩
    simp only [List.mem_map, Prod.mk.injEq] at h2
    obtain ⟨r0, hr0, rfl, rfl⟩ := h2
    have h3 : ∃ p ∈ sch.zip st, (p.1.1, p.2) = (x, rs) := by
      have z : (names sch).zip st = (sch.zip st).map fun p => (p.1.1, p.2) := by
        unfold names
        rw [List.zip_map_left]
        rfl
      rw [z] at h1
      simpa using h1
    obtain ⟨p, hp, e⟩ := h3
    cases e
    obtain ⟨a, b⟩ := part_zip hn (p := p.1) (rs := p.2) hp
    exact ⟨a, by rw [b]; exact hr0⟩
  · rintro ⟨ht, hr⟩
    refine ⟨(t, part sch st t), ?_, List.mem_map.mpr ⟨r, hr, rfl⟩⟩
    have hp := place_lt ht
    have hl : place sch t < (names sch).length := List.idxOf_lt_length_of_mem ht
    rw [List.mem_iff_getElem]
    refine ⟨place sch t, by rw [List.length_zip]; omega, ?_⟩
    rw [List.getElem_zip]
    have e1 : (names sch)[place sch t] = t := List.getElem_idxOf hl
    have e2 : st[place sch t]'(by omega) = part sch st t := by
      unfold part
      rw [List.getD_eq_getElem?_getD, List.getElem?_eq_getElem (by omega)]
      rfl
    rw [e1, e2]
theorem flatMap_le {α β : Type} {f : α → List β} {n : Nat} : ∀ {xs : List α}, (∀ x ∈ xs, (f x).length ≤ n) → (xs.flatMap f).length ≤ xs.length * n
  | [], _ => by simp
  | x :: xs, h => by
    rw [List.flatMap_cons, List.length_append, List.length_cons]
    have a := h x (List.mem_cons_self ..)
    have b := flatMap_le (f := f) (xs := xs) fun y hy => h y (List.mem_cons_of_mem _ hy)
    rw [Nat.add_mul]
    omega
theorem listed_len (h : SchOk sch) (s : StoOk sch st) : (listed sch st).length ≤ 160 := by
  unfold listed
  refine Nat.le_trans (flatMap_le (n := 40) fun p hp => ?_) ?_
  · obtain ⟨x, rs⟩ := p
    rw [List.length_map]
    have z : (names sch).zip st = (sch.zip st).map fun p => (p.1.1, p.2) := by
      unfold names
      rw [List.zip_map_left]
      rfl
    rw [z] at hp
    obtain ⟨q, hq, e⟩ := List.mem_map.mp hp
    cases e
    obtain ⟨a, b⟩ := part_zip h.nd (p := q.1) (rs := q.2) hq
    have := part_len s a
    rw [b] at this
    exact this
  · rw [List.length_zip]
    have h4 := h.l4
    have : (names sch).length = sch.length := by simp [names]
    have : min (names sch).length st.length ≤ 4 := by omega
    omega
end
end LW

set_option Elab.async false
set_option linter.all false
set_option maxRecDepth 100000
set_option maxHeartbeats 1000000
/-! P3: all rows, stores of rows -/
namespace LW
open PySem PySem.Spec L2 R
section
variable {M : List MO} {sch : Sch} {st st' : Sto} {t : Str} {r : Row}
theorem zip_names : (names sch).zip st = (sch.zip st).map fun p => (p.1.1, p.2) := by
  unfold names
  rw [List.zip_map_left]
  rfl
@[simp] theorem e_listed (h : SchOk sch) (s : StoOk sch st) : F_listed [Enc.e sch, Enc.e st] M = some ((Enc.e (listed sch st), false), M) := by
  have hl := listed_len h s
  have L : forL [.fz (Enc.e sch), .fz (Enc.e st), .own (.lst []), .no, .no, .no] (.tp [.nm 3, .nm 4]) L_listed_1 (((names sch).zip st).map Enc.e) [.fz (Enc.e sch), .fz (Enc.e st), .own (.lst []), .no, .no, .no] M
      = some (.nx, [.fz (Enc.e sch), .fz (Enc.e st), .own (eL (listed sch st)), .no, .no, .no], M) := by
    refine forL_pre (fun pre : List (Str × List Row) => [.fz (Enc.e sch), .fz (Enc.e st), .own (eL (pre.flatMap fun p => p.2.map fun r => (p.1, r))), .no, .no, .no]) rfl fun pre a post e => ?_
    have hb : (pre.flatMap fun p => p.2.map fun r => (p.1, r)).length + a.2.length ≤ LIM := by
      refine lim40 ?_
      unfold listed at hl
      rw [e, List.flatMap_append, List.flatMap_cons, List.length_append, List.length_append, List.length_map] at hl
      omega
    have hb2 : a.2.length ≤ LIM := by omega
    obtain ⟨x, rs⟩ := a
    simp [stepL, L_listed_1, compL_map, stepC, kC1, hb, hb2, eL, kBd, show (2 : Nat) ≤ LIM from lim40 (by decide), -List.length_flatMap]
    exact fun r _ => rfl
  simp [F_listed, v_mkFn, B_listed, h.l4, zipD_e, L, show (0 : Nat) ≤ LIM from lim40 (by decide)]
/-- how many rows come into a table -/
def cnt (rs : List (Str × Row)) (t : Str) : Nat := (rs.filter fun p => decide (p.1 = t)).length
theorem cnt_app {a b : List (Str × Row)} : cnt (a ++ b) t = cnt a t + cnt b t := by simp [cnt]
structure Fits (sch : Sch) (rs : List (Str × Row)) : Prop where
  row : ∀ p ∈ rs, p.1 ∈ names sch ∧ isRow sch p.1 p.2 = true
theorem puts_ok {st0 : Sto} (s : StoOk sch st0) : ∀ {rs : List (Str × Row)}, Fits sch rs → (∀ t ∈ names sch, (part sch st0 t).length + cnt rs t ≤ 40) →
    StoOk sch (rs.foldl (fun st p => put sch st p.1 p.2) st0) ∧ (∀ t ∈ names sch, (part sch (rs.foldl (fun st p => put sch st p.1 p.2) st0) t).length ≤ (part sch st0 t).length + cnt rs t) ∧
      ∀ t ∈ names sch, ∀ r, r ∈ part sch (rs.foldl (fun st p => put sch st p.1 p.2) st0) t ↔ (t, r) ∈ rs ∨ r ∈ part sch st0 t := by
  intro rs
  induction rs generalizing st0 with
  | nil => exact fun _ _ => ⟨s, by simp [cnt], by simp⟩
  | cons p rs ih =>
    intro f hc
    obtain ⟨hp, hr⟩ := f.row p (List.mem_cons_self ..)
    have cc : ∀ t, cnt (p :: rs) t = (if t = p.1 then 1 else 0) + cnt rs t := fun t => by
      have e : p :: rs = [p] ++ rs := rfl
      rw [e, cnt_app]
      congr 1
      unfold cnt
      by_cases e : t = p.1
      · simp [e]
      · have e' : ¬ p.1 = t := fun z => e z.symm
        simp [e, e']
    have room : p.2 ∈ part sch st0 p.1 ∨ (part sch st0 p.1).length < 40 := by
      have := hc p.1 hp
      rw [cc, if_pos rfl] at this
      exact .inr (by omega)
    have s' := put_ok s hp hr room
    obtain ⟨a, b, c⟩ := ih s' ⟨fun q hq => f.row q (List.mem_cons_of_mem _ hq)⟩ fun t ht => by
      have h1 := part_len_put (r := p.2) s hp ht
      have h2 := hc t ht
      rw [cc] at h2
      omega
    refine ⟨a, fun t ht => ?_, fun t ht r => ?_⟩
    · have h1 := b t ht
      have h2 := part_len_put (r := p.2) s hp ht
      rw [cc]
      rw [List.foldl_cons]
      omega
    · rw [List.foldl_cons, c t ht r, mem_put s hp ht, List.mem_cons]
      constructor
      · rintro (h | ⟨rfl, rfl⟩ | h)
        · exact .inl (.inr h)
        · exact .inl (.inl rfl)
        · exact .inr h
      · rintro ((h | h) | h)
        · exact .inr (.inl ⟨congrArg (·.1) h, congrArg (·.2) h⟩)
        · exact .inl h
        · exact .inr (.inr h)
theorem Fits.pre {a b : List (Str × Row)} (f : Fits sch (a ++ b)) : Fits sch a := ⟨fun p hp => f.row p (List.mem_append_left _ hp)⟩
theorem isRow_ne (h : SchOk sch) (ht : t ∈ names sch) (hr : isRow sch t r = true) : r ≠ [] := fun e => by
  have l := isRow_len hr
  have w := h.w ht
  rw [e] at l
  simp at l
  omega
/-- one put of a row of many -/
theorem puts_step {st0 : Sto} (h : SchOk sch) (s : StoOk sch st0) {pre post : List (Str × Row)} {a : Str × Row} (f : Fits sch (pre ++ a :: post)) (hc : ∀ t ∈ names sch, (part sch st0 t).length + cnt (pre ++ a :: post) t ≤ 40) :
    F_put [Enc.e sch, Enc.e (pre.foldl (fun st p => put sch st p.1 p.2) st0), .str a.1, Enc.e a.2] M = some ((Enc.e ((pre ++ [a]).foldl (fun st p => put sch st p.1 p.2) st0), false), M) := by
  obtain ⟨ht, hr⟩ := f.row a (by simp)
  have c1 : ∀ t, cnt (pre ++ a :: post) t = cnt pre t + (cnt [a] t + cnt post t) := fun t => by
    rw [cnt_app]
    have e : a :: post = [a] ++ post := rfl
    rw [e, cnt_app]
  obtain ⟨x, y, _⟩ := puts_ok s f.pre fun t ht => by
    have := hc t ht
    rw [c1] at this
    omega
  have one : cnt [a] a.1 = 1 := by simp [cnt]
  rw [List.foldl_append]
  refine e_put h x ht (isRow_ne h ht hr) (.inr ?_)
  have h1 := y a.1 ht
  have h2 := hc a.1 ht
  rw [c1, one] at h2
  omega
theorem e_gathered' (h : SchOk sch) {rs : List (Str × Row)} (f : Fits sch rs) (hc : ∀ t ∈ names sch, cnt rs t ≤ 40) {d : D} (hd : walkD d = some (rs.map Enc.e)) : F_gathered [Enc.e sch, d] M = some ((Enc.e (gathered sch rs), false), M) := by
  have hc' : ∀ t ∈ names sch, (part sch (empty sch) t).length + cnt rs t ≤ 40 := fun t ht => by
    rw [empty_part]
    simpa using hc t ht
  have L : forL [.fz (Enc.e sch), .fz d, .fz (Enc.e (empty sch)), .no, .no, .no] (.tp [.nm 4, .nm 5]) L_gathered_1 (rs.map Enc.e) [.fz (Enc.e sch), .fz d, .fz (Enc.e (empty sch)), .no, .no, .no] M
      = some (.nx, [.fz (Enc.e sch), .fz d, .fz (Enc.e (gathered sch rs)), .no, .no, .no], M) := by
    refine forL_pre (fun pre : List (Str × Row) => [.fz (Enc.e sch), .fz d, .fz (Enc.e (pre.foldl (fun st p => put sch st p.1 p.2) (empty sch))), .no, .no, .no]) rfl fun pre a post e => ?_
    have z := puts_step (M := M) h empty_ok (pre := pre) (a := a) (post := post) (e ▸ f) (e ▸ hc')
    obtain ⟨x, y⟩ := a
    simp [stepL, L_gathered_1, kBd, z, -List.foldl_append]
  have e0 : D.tup (sch.map fun _ => D.tup []) = Enc.e (empty sch) := by
    unfold empty
    rw [e_list, List.map_map]
    rfl
  simp [F_gathered, v_mkFn, B_gathered, compL_map, stepC, kC1, lim40 (n := sch.length) (by have := h.l4; omega), e0, hd, L, show (0 : Nat) ≤ LIM from lim40 (by decide)]
@[simp] theorem e_gathered (h : SchOk sch) {rs : List (Str × Row)} (f : Fits sch rs) (hc : ∀ t ∈ names sch, cnt rs t ≤ 40) : F_gathered [Enc.e sch, Enc.e rs] M = some ((Enc.e (gathered sch rs), false), M) := e_gathered' h f hc rfl
@[simp] theorem e_gatheredL (h : SchOk sch) {rs : List (Str × Row)} (f : Fits sch rs) (hc : ∀ t ∈ names sch, cnt rs t ≤ 40) : F_gathered [Enc.e sch, eL rs] M = some ((Enc.e (gathered sch rs), false), M) := e_gathered' h f hc rfl
theorem cnt_zip {t : Str} : ∀ {xs : List Str} {st : Sto}, xs.Nodup → cnt ((xs.zip st).flatMap fun p => p.2.map fun r => (p.1, r)) t = if t ∈ xs then (st.getD (xs.idxOf t) []).length else 0
  | [], st, _ => by simp [cnt]
  | x :: xs, [], _ => by simp [cnt]
  | x :: xs, rs :: st, hn => by
    have hn' := List.nodup_cons.mp hn
    rw [List.zip_cons_cons, List.flatMap_cons, cnt_app, cnt_zip hn'.2]
    have e1 : cnt (rs.map fun r => (x, r)) t = if x = t then rs.length else 0 := by
      unfold cnt
      by_cases e : x = t
      · subst e
        rw [if_pos rfl, List.filter_eq_self.mpr (by simp), List.length_map]
      · simp [e]
    rw [e1]
    by_cases e : x = t
    · subst e
      simp [hn'.1]
    · have e' : ¬ t = x := fun z => e z.symm
      have z2 : (x == t) = false := beq_eq_false_iff_ne.mpr e
      by_cases hm : t ∈ xs
      · simp [e, e', hm, List.idxOf_cons, z2]
      · simp [e, e', hm]
theorem cnt_listed (hn : (names sch).Nodup) (ht : t ∈ names sch) : cnt (listed sch st) t = (part sch st t).length := by
  unfold listed
  rw [cnt_zip hn, if_pos ht]
  rfl
theorem cnt_filter {rs : List (Str × Row)} {q : Str × Row → Bool} : cnt (rs.filter q) t ≤ cnt rs t := by
  unfold cnt
  rw [List.filter_filter]
  refine Nat.le_trans (Nat.le_of_eq ?_) (List.length_filter_le q (rs.filter fun p => decide (p.1 = t)))
  rw [List.filter_filter]
  congr 1
  apply List.filter_congr
  intro x _
  exact Bool.and_comm ..
theorem listed_part (h : SchOk sch) (s : StoOk sch st) : ∀ p ∈ listed sch st, p.1 ∈ names sch ∧ p.2 ∈ part sch st p.1 := fun p hp => (mem_listed h.nd s.len).mp hp
theorem fits_listed (h : SchOk sch) (s : StoOk sch st) : Fits sch (listed sch st) := ⟨fun p hp => ⟨(listed_part h s p hp).1, (s.ok _ (listed_part h s p hp).1).2.1 _ (listed_part h s p hp).2⟩⟩
theorem Fits.filter {rs : List (Str × Row)} (f : Fits sch rs) {q : Str × Row → Bool} : Fits sch (rs.filter q) := ⟨fun p hp => f.row p (List.mem_filter.mp hp).1⟩
@[simp] theorem e_minus (h : SchOk sch) (s : StoOk sch st) (s' : StoOk sch st') : F_minus [Enc.e sch, Enc.e st, Enc.e st'] M = some ((Enc.e (minus sch st st'), false), M) := by
  have hl := lim40 (n := (minus sch st st').length) (Nat.le_trans (List.length_filter_le _ _) (Nat.le_trans (listed_len h s) (by decide)))
  have hp : ∀ p ∈ listed sch st, p.1 ∈ names sch := fun p hp => (listed_part h s p hp).1
  unfold minus at hl ⊢
  simp +contextual [F_minus, v_mkFn, B_minus, h, s, s', compL_map, stepC, kC1, hp, hl]
  rfl
end
end LW

set_option Elab.async false
set_option linter.all false
set_option maxRecDepth 100000
/-! bodies -/
namespace LW
open PySem PySem.Spec L2 R
def B_empty_store : ES := sSeq (sPre [] (sEx (eFn F_demand_schema (eCons (eVar 0) (eNil))))) (sPre [] (sRet (eFn F_gathered (eCons (eVar 0) (eCons (eFz (eTup (eNil))) (eNil))))))
def F_empty_store : Fn := mkFn 1 B_empty_store
def B_how_many : ES := sSeq (sPre [] (sEx (eFn F_demand_store (eCons (eVar 0) (eCons (eVar 1) (eCons (eFz (eOld (eCst (.str "store")))) (eNil))))))) (sPre [] (sRet (eCall dLen (eCons (eFz (eFn F_listed (eCons (eVar 0) (eCons (eVar 1) (eNil))))) (eNil)))))
def F_how_many : Fn := mkFn 2 B_how_many
def B_all_rows : ES := sSeq (sPre [] (sEx (eFn F_demand_store (eCons (eVar 0) (eCons (eVar 1) (eCons (eFz (eOld (eCst (.str "store")))) (eNil))))))) (sPre [] (sRet (eFn F_listed (eCons (eVar 0) (eCons (eVar 1) (eNil))))))
def F_all_rows : Fn := mkFn 2 B_all_rows
def B_difference : ES := sSeq (sPre [] (sEx (eFn F_demand_store (eCons (eVar 0) (eCons (eVar 1) (eCons (eFz (eOld (eCst (.str "store")))) (eNil))))))) (sSeq (sPre [] (sEx (eFn F_demand_store (eCons (eVar 0) (eCons (eVar 2) (eCons (eFz (eOld (eCst (.str "other")))) (eNil))))))) (sPre [] (sRet (eTup (eCons (eFz (eFn F_minus (eCons (eVar 0) (eCons (eVar 2) (eCons (eVar 1) (eNil)))))) (eCons (eFz (eFn F_minus (eCons (eVar 0) (eCons (eVar 1) (eCons (eVar 2) (eNil)))))) (eNil)))))))
def F_difference : Fn := mkFn 3 B_difference
def B_are_rows : ES := sSeq (sPre [] (sIf (eNot (tbV (eFz (eFn F_is_tuple (eCons (eVar 1) (eCons (eFz (eOld (eCst (.int 0)))) (eCons (eFz (eOp dMul (eFz (eOld (eCst (.int 4)))) (eCst (.int 40)))) (eNil)))))))) (sPre [] (sRet (eOld (eCst (.bl false))))) (sNx))) (sSeq (sPre [] (sIf (eNot (tbV (eFz (eCall dAll (eCons (eFz (eComp [2] (iSeq (eVar 1)) (.nm 2) eYes (eFz (vAnd (tbB (eFz (eFn F_is_tuple (eCons (eVar 2) (eCons (eFz (eOld (eCst (.int 2)))) (eCons (eFz (eOld (eCst (.int 2)))) (eNil))))))) (vAnd (tbB (eFz (eUn (dIsi "str") (eFz (eIxM (eVar 2) (eFz (eOld (eCst (.int 0))))))))) (eOp (dIn false) (eFz (eIxM (eVar 2) (eFz (eOld (eCst (.int 0)))))) (eFz (eFn F_names_in (eCons (eVar 0) (eNil)))))))))) (eNil)))))) (sPre [] (sRet (eOld (eCst (.bl false))))) (sNx))) (sPre [] (sRet (eCall dAll (eCons (eFz (eComp [2] (iSeq (eVar 1)) (.nm 2) eYes (eFz (eFn F_is_row_of (eCons (eVar 0) (eCons (eFz (eIxM (eVar 2) (eFz (eOld (eCst (.int 0)))))) (eCons (eFz (eIxM (eVar 2) (eFz (eOld (eCst (.int 1)))))) (eNil)))))))) (eNil))))))
def F_are_rows : Fn := mkFn 3 B_are_rows
def L_changed_1 : ES := sPre [] (sSet 1 (eOld (eFz (eFn F_take (eCons (eVar 0) (eCons (eVar 1) (eCons (eVar 5) (eCons (eVar 6) (eNil)))))))))
def L_changed_2 : ES := sPre [] (sSet 1 (eOld (eFz (eFn F_put (eCons (eVar 0) (eCons (eVar 1) (eCons (eVar 5) (eCons (eVar 6) (eNil)))))))))
def B_changed : ES := sSeq (sPre [] (sEx (eFn F_demand_store (eCons (eVar 0) (eCons (eVar 1) (eCons (eFz (eOld (eCst (.str "store")))) (eNil))))))) (sSeq (sPre [] (sEx (eFn F_demand (eCons (eFz (eFn F_are_rows (eCons (eVar 0) (eCons (eVar 2) (eNil))))) (eCons (eFz (eOld (eCst (.str "coming")))) (eNil)))))) (sSeq (sPre [] (sEx (eFn F_demand (eCons (eFz (eFn F_are_rows (eCons (eVar 0) (eCons (eVar 3) (eNil))))) (eCons (eFz (eOld (eCst (.str "going")))) (eNil)))))) (sSeq (sPre [] (sEx (eFn F_demand (eCons (eFz (eOld (bVal (eNot (tbV (eFz (eCall dAny (eCons (eFz (eComp [4] (iSeq (eVar 3)) (.nm 4) eYes (eFz (eOp (dIn false) (eVar 4) (eVar 2))))) (eNil))))))))) (eCons (eFz (eOld (eCst (.str "going")))) (eNil)))))) (sSeq (sPre [] (sFor (iSeq (eVar 3)) (.tp [.nm 5, .nm 6]) (L_changed_1))) (sSeq (sPre [] (sFor (iSeq (eVar 2)) (.tp [.nm 5, .nm 6]) (L_changed_2))) (sRetV 1))))))
def F_changed : Fn := mkFn 7 B_changed
def L_joined_1 : ES := sPre [] (sSet 1 (eOld (eFz (eFn F_put (eCons (eVar 0) (eCons (eVar 1) (eCons (eVar 3) (eCons (eVar 4) (eNil)))))))))
def B_joined : ES := sSeq (sPre [] (sEx (eFn F_demand_store (eCons (eVar 0) (eCons (eVar 1) (eCons (eFz (eOld (eCst (.str "store")))) (eNil))))))) (sSeq (sPre [] (sEx (eFn F_demand_store (eCons (eVar 0) (eCons (eVar 2) (eCons (eFz (eOld (eCst (.str "other")))) (eNil))))))) (sSeq (sPre [] (sFor (iSeq (eFz (eFn F_listed (eCons (eVar 0) (eCons (eVar 2) (eNil)))))) (.tp [.nm 3, .nm 4]) (L_joined_1))) (sRetV 1)))
def F_joined : Fn := mkFn 5 B_joined
def B_common : ES := sSeq (sPre [] (sEx (eFn F_demand_store (eCons (eVar 0) (eCons (eVar 1) (eCons (eFz (eOld (eCst (.str "store")))) (eNil))))))) (sSeq (sPre [] (sEx (eFn F_demand_store (eCons (eVar 0) (eCons (eVar 2) (eCons (eFz (eOld (eCst (.str "other")))) (eNil))))))) (sPre [] (sRet (eFn F_gathered (eCons (eVar 0) (eCons (eFz (eComp [3] (iSeq (eFz (eFn F_listed (eCons (eVar 0) (eCons (eVar 1) (eNil)))))) (.nm 3) (tbB (eFz (eOp (dIn false) (eFz (eIxM (eVar 3) (eFz (eOld (eCst (.int 1)))))) (eFz (eFn F_part_of (eCons (eVar 0) (eCons (eVar 2) (eCons (eFz (eIxM (eVar 3) (eFz (eOld (eCst (.int 0)))))) (eNil))))))))) (eVar 3))) (eNil)))))))
def F_common : Fn := mkFn 4 B_common
end LW

set_option Elab.async false
set_option linter.all false
set_option maxRecDepth 100000
set_option maxHeartbeats 1000000
/-! P4: what is asked of stores, evaluated -/
namespace LW
open PySem PySem.Spec L2 R
section
variable {M : List MO} {sch : Sch} {st st' : Sto} {t : Str} {r : Row}
/-- rows put one by one | taken one by one -/
def puts (sch : Sch) (st : Sto) (rs : List (Str × Row)) : Sto := rs.foldl (fun st p => put sch st p.1 p.2) st
def takes (sch : Sch) (st : Sto) (rs : List (Str × Row)) : Sto := rs.foldl (fun st p => take sch st p.1 p.2) st
theorem fits_nil : Fits sch [] := ⟨fun _ h => by cases h⟩
@[simp] theorem e_empty_store (h : SchOk sch) : F_empty_store [Enc.e sch] M = some ((Enc.e (empty sch), false), M) := by
  have z := e_gathered (M := M) h fits_nil (by simp [cnt])
  have e0 : D.tup [] = Enc.e ([] : List (Str × Row)) := rfl
  simp [F_empty_store, v_mkFn, B_empty_store, h, e0, z, show (0 : Nat) ≤ LIM from lim40 (by decide)]
  rfl
@[simp] theorem e_how_many (h : SchOk sch) (s : StoOk sch st) : F_how_many [Enc.e sch, Enc.e st] M = some ((.int ((listed sch st).length : Nat), false), M) := by
  simp [F_how_many, v_mkFn, B_how_many, h, s]
@[simp] theorem e_all_rows (h : SchOk sch) (s : StoOk sch st) : F_all_rows [Enc.e sch, Enc.e st] M = some ((Enc.e (listed sch st), false), M) := by
  simp [F_all_rows, v_mkFn, B_all_rows, h, s]
@[simp] theorem e_difference (h : SchOk sch) (s : StoOk sch st) (s' : StoOk sch st') : F_difference [Enc.e sch, Enc.e st, Enc.e st'] M = some ((Enc.e (minus sch st' st, minus sch st st'), false), M) := by
  simp [F_difference, v_mkFn, B_difference, h, s, s', show (2 : Nat) ≤ LIM from lim40 (by decide)]
  rfl
@[simp] theorem e_are_rows (h : SchOk sch) {rs : List (Str × Row)} (f : Fits sch rs) (hl : rs.length ≤ 160) : F_are_rows [Enc.e sch, Enc.e rs] M = some ((.bl true, false), M) := by
  have h1 := lim40 (n := rs.length) (by omega)
  have hl' : (rs.length : Int) ≤ 160 := by omega
  have m : dMul (.int 4) (.int 40) = some (.int 160, false) := rfl
  have hn : ∀ p ∈ rs, p.1 ∈ names sch := fun p hp => (f.row p hp).1
  have hr : ∀ p ∈ rs, ∀ M, F_is_row_of [Enc.e sch, .str p.1, Enc.e p.2] M = some ((.bl true, false), M) := fun p hp M => by
    obtain ⟨a, b⟩ := f.row p hp
    have := isRow_len b
    have := (h.w a).2
    rw [e_is_row_of h.nd a (by omega), b]
  simp +contextual [F_are_rows, v_mkFn, B_are_rows, hl', m, compL_map, stepC, kC1, h1, hn, hr, h.l4]
@[simp] theorem e_joined (h : SchOk sch) (s : StoOk sch st) (s' : StoOk sch st') (hc : ∀ t ∈ names sch, (part sch st t).length + cnt (listed sch st') t ≤ 40) : F_joined [Enc.e sch, Enc.e st, Enc.e st'] M = some ((Enc.e (puts sch st (listed sch st')), false), M) := by
  have f : Fits sch (listed sch st') := ⟨fun p hp => ⟨(listed_part h s' p hp).1, (s'.ok _ (listed_part h s' p hp).1).2.1 _ (listed_part h s' p hp).2⟩⟩
  have L : forL [.fz (Enc.e sch), .fz (Enc.e st), .fz (Enc.e st'), .no, .no] (.tp [.nm 3, .nm 4]) L_joined_1 ((listed sch st').map Enc.e) [.fz (Enc.e sch), .fz (Enc.e st), .fz (Enc.e st'), .no, .no] M
      = some (.nx, [.fz (Enc.e sch), .fz (Enc.e (puts sch st (listed sch st'))), .fz (Enc.e st'), .no, .no], M) := by
    refine forL_pre (fun pre : List (Str × Row) => [.fz (Enc.e sch), .fz (Enc.e (puts sch st pre)), .fz (Enc.e st'), .no, .no]) rfl fun pre a post e => ?_
    have z := puts_step (M := M) h s (pre := pre) (a := a) (post := post) (e ▸ f) (e ▸ hc)
    obtain ⟨x, y⟩ := a
    unfold puts
    simp [stepL, L_joined_1, kBd, z, -List.foldl_append]
  simp [F_joined, v_mkFn, B_joined, h, s, s', L]
/-- the rows that both have -/
def common (sch : Sch) (st st' : Sto) : Sto := gathered sch ((listed sch st).filter fun p => decide (p.2 ∈ part sch st' p.1))
def joined (sch : Sch) (st st' : Sto) : Sto := puts sch st (listed sch st')
@[simp] theorem e_common (h : SchOk sch) (s : StoOk sch st) (s' : StoOk sch st') : F_common [Enc.e sch, Enc.e st, Enc.e st'] M = some ((Enc.e (common sch st st'), false), M) := by
  have hl := lim40 (n := ((listed sch st).filter fun p => decide (p.2 ∈ part sch st' p.1)).length) (Nat.le_trans (List.length_filter_le _ _) (Nat.le_trans (listed_len h s) (by decide)))
  have hp : ∀ p ∈ listed sch st, p.1 ∈ names sch := fun p hp => (listed_part h s p hp).1
  have z := e_gatheredL (M := M) h ((fits_listed h s).filter (q := fun p => decide (p.2 ∈ part sch st' p.1))) fun t ht => Nat.le_trans cnt_filter (by rw [cnt_listed h.nd ht]; exact part_len s ht)
  unfold common
  simp +contextual [F_common, v_mkFn, B_common, h, s, s', compL_map, stepC, kC1, hp, hl]
  show fin (bO (F_gathered [Enc.e sch, eL _] M) _) = _
  rw [z]
  rfl
@[simp] theorem e_changed (h : SchOk sch) (s : StoOk sch st) {coming going : List (Str × Row)} (fc : Fits sch coming) (fg : Fits sch going) (hl : coming.length ≤ 160) (hl' : going.length ≤ 160) (hd : ∀ p ∈ going, p ∉ coming)
    (hc : ∀ t ∈ names sch, (part sch (takes sch st going) t).length + cnt coming t ≤ 40) : F_changed [Enc.e sch, Enc.e st, Enc.e coming, Enc.e going] M = some ((Enc.e (puts sch (takes sch st going) coming), false), M) := by
  have h1 := lim40 (n := going.length) (by omega)
  have tk : ∀ {rs : List (Str × Row)}, Fits sch rs → StoOk sch (takes sch st rs) := fun {rs} f => by
    have key : ∀ (rs : List (Str × Row)) (st0 : Sto), Fits sch rs → StoOk sch st0 → StoOk sch (takes sch st0 rs) := by
      intro rs
      induction rs with
      | nil => exact fun _ _ s => s
      | cons p rs ih => exact fun st0 f s => ih _ ⟨fun q hq => f.row q (List.mem_cons_of_mem _ hq)⟩ (take_ok s (f.row p (List.mem_cons_self ..)).1)
    exact key rs st f s
  have L1 : forL [.fz (Enc.e sch), .fz (Enc.e st), .fz (Enc.e coming), .fz (Enc.e going), .no, .no, .no] (.tp [.nm 5, .nm 6]) L_changed_1 (going.map Enc.e) [.fz (Enc.e sch), .fz (Enc.e st), .fz (Enc.e coming), .fz (Enc.e going), .no, .no, .no] M
      = some (.nx, [.fz (Enc.e sch), .fz (Enc.e (takes sch st going)), .fz (Enc.e coming), .fz (Enc.e going), .no, .no, .no], M) := by
    refine forL_pre (fun pre : List (Str × Row) => [.fz (Enc.e sch), .fz (Enc.e (takes sch st pre)), .fz (Enc.e coming), .fz (Enc.e going), .no, .no, .no]) rfl fun pre a post e => ?_
    have s' := tk (rs := pre) (e ▸ fg : Fits sch (pre ++ a :: post)).pre
    have ht := (fg.row a (by rw [e]; simp)).1
    have z := e_take (M := M) (r := a.2) h s' ht
    have y : takes sch st (pre ++ [a]) = take sch (takes sch st pre) a.1 a.2 := by
      unfold takes
      rw [List.foldl_append]
      rfl
    rw [y]
    obtain ⟨x, w⟩ := a
    simp [stepL, L_changed_1, kBd, z]
  have s2 := tk fg
  generalize takes sch st going = st2 at L1 hc s2
  have L2 : forL [.fz (Enc.e sch), .fz (Enc.e st2), .fz (Enc.e coming), .fz (Enc.e going), .no, .no, .no] (.tp [.nm 5, .nm 6]) L_changed_2 (coming.map Enc.e) [.fz (Enc.e sch), .fz (Enc.e st2), .fz (Enc.e coming), .fz (Enc.e going), .no, .no, .no] M
      = some (.nx, [.fz (Enc.e sch), .fz (Enc.e (puts sch st2 coming)), .fz (Enc.e coming), .fz (Enc.e going), .no, .no, .no], M) := by
    refine forL_pre (fun pre : List (Str × Row) => [.fz (Enc.e sch), .fz (Enc.e (puts sch st2 pre)), .fz (Enc.e coming), .fz (Enc.e going), .no, .no, .no]) rfl fun pre a post e => ?_
    have z := puts_step (M := M) h s2 (pre := pre) (a := a) (post := post) (e ▸ fc) (e ▸ hc)
    obtain ⟨x, y⟩ := a
    unfold puts
    simp [stepL, L_changed_2, kBd, z, -List.foldl_append]
  have na : (going.any fun a => decide (a ∈ coming)) = false := by
    rw [List.any_eq_false]
    intro p hp
    simpa using hd p hp
  simp [F_changed, v_mkFn, B_changed, h, s, fc, fg, hl, hl', compL_map, stepC, kC1, h1, na, L1, L2]
end
end LW

set_option Elab.async false
set_option linter.all false
set_option maxRecDepth 100000
set_option maxHeartbeats 1000000
/-! P5: the algebra of stores -/
namespace LW
open PySem PySem.Spec L2 R
theorem leR_leO (a b : Row) : leR a b = leO a b := (le_rows a b).symm.trans (le_e a b)
theorem sortR_srt (rs : List Row) : sortR rs = srt rs := by
  unfold sortR srt
  have e : leR = leO := by
    funext a b
    exact leR_leO a b
  rw [e]
theorem lt_rowE (a b : Row) : (EOrd.lt a b = true) = (a < b) := by
  have z : EOrd.lt a b = decide (a < b) := (EOrd.ltE a b).symm.trans (lt_rows a b)
  rw [z]
  simp
theorem srt_ext {α : Type} [EOrd α] {xs ys : List α} (hx : xs.Nodup) (hy : ys.Nodup) (h : ∀ a, a ∈ xs ↔ a ∈ ys) : srt xs = srt ys := pw_ext_lt (srt_lt hx) (srt_lt hy) fun a => by rw [mem_srt, mem_srt]; exact h a
theorem len_ext {α : Type} [EOrd α] {xs ys : List α} (hx : xs.Nodup) (hy : ys.Nodup) (h : ∀ a, a ∈ xs ↔ a ∈ ys) : xs.length = ys.length := by
  rw [← len_srt (xs := xs), ← len_srt (xs := ys), srt_ext hx hy h]
section
variable {sch : Sch} {st st' a b c : Sto} {t : Str} {r : Row}
/-- all rows, table by table -/
theorem listed_eq (hn : (names sch).Nodup) (hl : st.length = sch.length) : listed sch st = (names sch).flatMap fun t => (part sch st t).map fun r => (t, r) := by
  unfold listed
  have key : ((names sch).zip st) = (names sch).map fun t => (t, part sch st t) := by
    apply List.ext_getElem
    · simp [names, hl]
    · intro i h1 h2
      simp only [List.getElem_zip, List.getElem_map]
      have hi : i < sch.length := by simp [names] at h2; exact h2
      have e : (names sch)[i]'(by simpa [names] using hi) = sch[i].1 := by simp [names]
      rw [e, part_at hn hi, List.getD_eq_getElem?_getD, List.getElem?_eq_getElem (by omega)]
      rfl
  rw [key, List.flatMap_map]
theorem nodup_listed (h : SchOk sch) (s : StoOk sch st) : (listed sch st).Nodup := by
  rw [listed_eq h.nd s.len]
  have nd := h.nd
  have hp : ∀ t ∈ names sch, (part sch st t).Nodup := fun t ht => pw_nodup (s.ok t ht).2.2
  generalize names sch = ns at nd hp
  induction ns with
  | nil => simp
  | cons x ns ih =>
    have nd' := List.nodup_cons.mp nd
    rw [List.flatMap_cons, List.nodup_append]
    refine ⟨List.Pairwise.map _ (fun a b hne e => hne (congrArg (·.2) e)) (hp x (List.mem_cons_self ..)), ih nd'.2 fun t ht => hp t (List.mem_cons_of_mem _ ht), fun p hp q hq e => ?_⟩
    obtain ⟨u, _, rfl⟩ := List.mem_map.mp hp
    obtain ⟨y, hy, hq⟩ := List.mem_flatMap.mp hq
    obtain ⟨v, _, rfl⟩ := List.mem_map.mp hq
    have : x = y := congrArg (·.1) e
    exact nd'.1 (this ▸ hy)
/-- no table has more than so many rows -/
def Sz (sch : Sch) (m : Nat) (st : Sto) : Prop := ∀ t ∈ names sch, (part sch st t).length ≤ m
theorem joined_ok (h : SchOk sch) (s : StoOk sch st) (s' : StoOk sch st') {m m' : Nat} (z : Sz sch m st) (z' : Sz sch m' st') (hm : m + m' ≤ 40) :
    StoOk sch (joined sch st st') ∧ Sz sch (m + m') (joined sch st st') ∧ ∀ t ∈ names sch, ∀ r, r ∈ part sch (joined sch st st') t ↔ r ∈ part sch st' t ∨ r ∈ part sch st t := by
  obtain ⟨x, y, w⟩ := puts_ok s (fits_listed h s') fun t ht => by
    rw [cnt_listed h.nd ht]
    have := z t ht
    have := z' t ht
    omega
  refine ⟨x, fun t ht => ?_, fun t ht r => ?_⟩
  · have k := y t ht
    rw [cnt_listed h.nd ht] at k
    have := z t ht
    have := z' t ht
    show (part sch (joined sch st st') t).length ≤ _
    unfold joined puts
    omega
  · have k := w t ht r
    show r ∈ part sch (joined sch st st') t ↔ _
    unfold joined puts
    rw [k, mem_listed h.nd s'.len]
    simp [ht]
theorem cnt_gathered (h : SchOk sch) (s : StoOk sch st) {q : Str × Row → Bool} : ∀ t ∈ names sch, (part sch (empty sch) t).length + cnt ((listed sch st).filter q) t ≤ 40 := fun t ht => by
  rw [empty_part]
  have := cnt_filter (t := t) (rs := listed sch st) (q := q)
  rw [cnt_listed h.nd ht] at this
  have := part_len s ht
  simp
  omega
theorem common_ok (h : SchOk sch) (s : StoOk sch st) (s' : StoOk sch st') {m : Nat} (z : Sz sch m st) :
    StoOk sch (common sch st st') ∧ Sz sch m (common sch st st') ∧ ∀ t ∈ names sch, ∀ r, r ∈ part sch (common sch st st') t ↔ r ∈ part sch st t ∧ r ∈ part sch st' t := by
  obtain ⟨x, y, w⟩ := puts_ok (empty_ok (sch := sch)) ((fits_listed h s).filter (q := fun p => decide (p.2 ∈ part sch st' p.1))) (cnt_gathered h s)
  refine ⟨x, fun t ht => ?_, fun t ht r => ?_⟩
  · have k := y t ht
    have := cnt_filter (t := t) (rs := listed sch st) (q := fun p => decide (p.2 ∈ part sch st' p.1))
    rw [cnt_listed h.nd ht] at this
    rw [empty_part] at k
    have := z t ht
    show (part sch (common sch st st') t).length ≤ _
    unfold common gathered
    simp at k
    omega
  · have k := w t ht r
    show r ∈ part sch (common sch st st') t ↔ _
    unfold common gathered
    rw [k, List.mem_filter, mem_listed h.nd s.len, empty_part]
    simp [ht]
theorem flatMap_cg {α β : Type} {f g : α → List β} : ∀ {xs : List α}, (∀ x ∈ xs, f x = g x) → xs.flatMap f = xs.flatMap g
  | [], _ => rfl
  | x :: xs, h => by
    rw [List.flatMap_cons, List.flatMap_cons, h x (List.mem_cons_self ..), flatMap_cg fun y hy => h y (List.mem_cons_of_mem _ hy)]
theorem part_common (h : SchOk sch) (s : StoOk sch st) (s' : StoOk sch st') (ht : t ∈ names sch) : part sch (common sch st st') t = (part sch st t).filter fun r => decide (r ∈ part sch st' t) := by
  obtain ⟨x, _, w⟩ := common_ok h s s' (m := 40) fun t ht => part_len s ht
  refine pw_ext (x.ok t ht).2.2 ((s.ok t ht).2.2.filter _) fun r => ?_
  rw [w t ht r, List.mem_filter]
  simp
theorem listed_common (h : SchOk sch) (s : StoOk sch st) (s' : StoOk sch st') : listed sch (common sch st st') = (listed sch st).filter fun p => decide (p.2 ∈ part sch st' p.1) := by
  have x := (common_ok h s s' (m := 40) fun t ht => part_len s ht).1
  rw [listed_eq h.nd x.len, listed_eq h.nd s.len, List.filter_flatMap]
  refine flatMap_cg fun t ht => ?_
  rw [part_common h s s' ht, List.filter_map]
  rfl
theorem takes_ok {rs : List (Str × Row)} : ∀ {st : Sto}, StoOk sch st → (∀ p ∈ rs, p.1 ∈ names sch) → StoOk sch (takes sch st rs) ∧ ∀ t ∈ names sch, ∀ r, r ∈ part sch (takes sch st rs) t ↔ (t, r) ∉ rs ∧ r ∈ part sch st t := by
  induction rs with
  | nil => exact fun s _ => ⟨s, fun t ht r => by simp [takes]⟩
  | cons p rs ih =>
    intro st s f
    have hp := f p (List.mem_cons_self ..)
    obtain ⟨x, y⟩ := ih (take_ok (r := p.2) s hp) fun q hq => f q (List.mem_cons_of_mem _ hq)
    refine ⟨x, fun t ht r => ?_⟩
    show r ∈ part sch (takes sch (take sch st p.1 p.2) rs) t ↔ _
    rw [y t ht r, mem_take s hp ht, List.mem_cons]
    constructor
    · rintro ⟨h1, h2, h3⟩
      refine ⟨fun z => ?_, h3⟩
      rcases z with z | z
      · exact h2 ⟨congrArg (·.1) z, congrArg (·.2) z⟩
      · exact h1 z
    · rintro ⟨h1, h2⟩
      exact ⟨fun z => h1 (.inr z), fun ⟨e1, e2⟩ => h1 (.inl (Prod.ext e1 e2)), h2⟩
theorem len_takes {rs : List (Str × Row)} (s : StoOk sch st) (f : ∀ p ∈ rs, p.1 ∈ names sch) {m : Nat} (z : Sz sch m st) : Sz sch m (takes sch st rs) := fun t ht => by
  obtain ⟨x, y⟩ := takes_ok s f
  have e := len_ext (xs := part sch (takes sch st rs) t) (ys := (part sch st t).filter fun r => decide ((t, r) ∉ rs)) (pw_nodup (x.ok t ht).2.2) ((pw_nodup (s.ok t ht).2.2).filter _) fun r => by
    rw [y t ht r, List.mem_filter]
    simp [and_comm]
  rw [e]
  exact Nat.le_trans (List.length_filter_le _ _) (z t ht)
theorem mem_minus (h : SchOk sch) (s : StoOk sch st) : (t, r) ∈ minus sch st st' ↔ t ∈ names sch ∧ r ∈ part sch st t ∧ r ∉ part sch st' t := by
  unfold minus
  rw [List.mem_filter, mem_listed h.nd s.len]
  simp [and_assoc]
theorem fits_minus (h : SchOk sch) (s : StoOk sch st) : Fits sch (minus sch st st') := (fits_listed h s).filter
theorem cnt_minus (h : SchOk sch) (s : StoOk sch st) (ht : t ∈ names sch) : cnt (minus sch st st') t ≤ (part sch st t).length := by
  have := cnt_filter (t := t) (rs := listed sch st) (q := fun p => !decide (p.2 ∈ part sch st' p.1))
  rw [cnt_listed h.nd ht] at this
  exact this
/-- what comes and what goes lead from one to the other -/
theorem changed_ok (h : SchOk sch) (s : StoOk sch st) (s' : StoOk sch st') {m m' : Nat} (z : Sz sch m st) (z' : Sz sch m' st') (hm : m + m' ≤ 40) :
    (∀ t ∈ names sch, (part sch (takes sch st (minus sch st st')) t).length + cnt (minus sch st' st) t ≤ 40) ∧ puts sch (takes sch st (minus sch st st')) (minus sch st' st) = st' := by
  have f : ∀ p ∈ minus sch st st', p.1 ∈ names sch := fun p hp => ((fits_minus h s).row p hp).1
  have hc : ∀ t ∈ names sch, (part sch (takes sch st (minus sch st st')) t).length + cnt (minus sch st' st) t ≤ 40 := fun t ht => by
    have := len_takes s f z t ht
    have := cnt_minus (st' := st) h s' ht
    have := z' t ht
    omega
  refine ⟨hc, ?_⟩
  obtain ⟨x, y⟩ := takes_ok s f
  obtain ⟨u, _, w⟩ := puts_ok x (fits_minus (st' := st) h s') hc
  refine sto_ext h.nd u s' fun t ht r => ?_
  unfold puts
  rw [w t ht r, y t ht r, mem_minus h s', mem_minus h s]
  by_cases h1 : r ∈ part sch st t <;> by_cases h2 : r ∈ part sch st' t <;> simp [h1, h2, ht]
theorem minus_disj (h : SchOk sch) (s : StoOk sch st) (s' : StoOk sch st') : ∀ p ∈ minus sch st st', p ∉ minus sch st' st := fun ⟨t, r⟩ hp hq => ((mem_minus h s).mp hp).2.2 ((mem_minus h s').mp hq).2.1
theorem minus_len (h : SchOk sch) (s : StoOk sch st) : (minus sch st st').length ≤ 160 := Nat.le_trans (List.length_filter_le _ _) (listed_len h s)
@[simp] theorem e_changed' {M : List MO} (h : SchOk sch) (s : StoOk sch st) (s' : StoOk sch st') (z : Sz sch 18 st) (z' : Sz sch 18 st') : F_changed [Enc.e sch, Enc.e st, Enc.e (minus sch st' st), Enc.e (minus sch st st')] M = some ((Enc.e st', false), M) := by
  obtain ⟨x, y⟩ := changed_ok h s s' z z' (by decide)
  rw [e_changed h s (fits_minus h s') (fits_minus h s) (minus_len h s') (minus_len h s) (minus_disj h s s') x, y]
end
end LW

set_option Elab.async false
set_option linter.all false
set_option maxRecDepth 100000
set_option maxHeartbeats 1000000
/-! DI: the dice of the laws -/
namespace LW
open PySem PySem.Spec L2 R
def L__law_dice_1 : ES := sPre [] (sSet 3 (eOld (eFz (eOp dMod (eFz (eCall dInt (eCons (eFz (eOp dAdd (eFz (eOp dMul (eVar 3) (eFz (eOld (eCst (.int 69621)))))) (eFz (eOp dMod (eFz (eCall dInt (eCons (eVar 4) (eNil)))) (eFz (eOld (eCst (.int 2147480009)))))))) (eNil)))) (eFz (eOld (eCst (.int 2147480009))))))))
def B__law_dice : ES := sSeq (sPre [] (sSet 2 (eOld (eFz (eIf (tbB (eFz (eOp dLt (eVar 1) (eFz (eCall dLen (eCons (eVar 0) (eNil))))))) (eIxM (eVar 0) (eVar 1)) (eOp dAdd (eFz (eOp dMul (eFz (eOld (eCst (.int 907)))) (eVar 1))) (eFz (eOld (eCst (.int 41)))))))))) (sSeq (sPre [] (sSet 3 (eOld (eFz (eOp dAdd (eFz (eOld (eCst (.int 700067)))) (eFz (eOp dMul (eFz (eOld (eCst (.int 6997)))) (eVar 1)))))))) (sSeq (sPre [] (sFor (iSeq (eFz (eOp dAdd (eFz (eSl (eVar 0) (eNoP) (eSomeP (eFz (eOld (eCst (.int 6))))))) (eFz (eLst (eCons (eVar 2) (eNil))))))) (.nm 4) (L__law_dice_1))) (sPre [] (sRet (eLst (eCons (eFz (eIf (eOr (tbB (eFz (eOp dLt (eVar 2) (eFz (eOld (eCst (.int 0))))))) (tbB (eFz (eOp dGe (eVar 2) (eFz (eOp dPow (eFz (eOld (eCst (.int 10)))) (eFz (eOld (eCst (.int 16)))))))))) (eCall dAbs (eCons (eVar 2) (eNil))) (eOld (eCst (.int 0))))) (eCons (eVar 3) (eCons (eFz (eOld (eCst (.int 0)))) (eNil)))))))))
def F__law_dice : Fn := mkFn 5 B__law_dice
def B__law_roll : ES := sSeq (sPre [] (sIf (tbB (eFz (eOp dGt (eFz (eIxM (eVar 0) (eFz (eOld (eCst (.int 0)))))) (eFz (eOld (eCst (.int 0))))))) (sSeq (sPre [] (sSet 2 (eOld (eFz (eOp dMod (eFz (eCall dInt (eCons (eFz (eIxM (eVar 0) (eFz (eOld (eCst (.int 0)))))) (eNil)))) (eVar 1)))))) (sSeq (sPre [] (sSub 0 (eFz (eOld (eCst (.int 0)))) (eFz (eOp dDiv (eFz (eIxM (eVar 0) (eFz (eOld (eCst (.int 0)))))) (eVar 1))))) (sRetV 2))) (sNx))) (sSeq (sPre [] (sSub 0 (eFz (eOld (eCst (.int 2)))) (eFz (eOp dAdd (eFz (eIxM (eVar 0) (eFz (eOld (eCst (.int 2)))))) (eFz (eOld (eCst (.int 1)))))))) (sSeq (sPre [] (sSub 0 (eFz (eOld (eCst (.int 1)))) (eFz (eOp dMod (eFz (eCall dInt (eCons (eFz (eOp dAdd (eFz (eOp dAdd (eFz (eOp dMul (eFz (eIxM (eVar 0) (eFz (eOld (eCst (.int 1)))))) (eFz (eOld (eCst (.int 48271)))))) (eFz (eOp dMul (eFz (eOp dMul (eFz (eIxM (eVar 0) (eFz (eOld (eCst (.int 2)))))) (eFz (eIxM (eVar 0) (eFz (eOld (eCst (.int 2)))))))) (eFz (eOld (eCst (.int 2003)))))))) (eFz (eOld (eCst (.int 91)))))) (eNil)))) (eFz (eOld (eCst (.int 2147480009)))))))) (sPre [] (sRet (eOp dMod (eFz (eCall dInt (eCons (eFz (eOp dDiv (eFz (eIxM (eVar 0) (eFz (eOld (eCst (.int 1)))))) (eFz (eOld (eCst (.int 197)))))) (eNil)))) (eVar 1))))))
def F__law_roll : Fn := mkFn 3 B__law_roll
def B__law_pick : ES := sPre [] (sRet (eIxM (eVar 1) (eFz (eFn F__law_roll (eCons (eVar 0) (eCons (eFz (eCall dLen (eCons (eVar 1) (eNil)))) (eNil)))))))
def F__law_pick : Fn := mkFn 2 B__law_pick
/-- the dice at n, that can be rolled so often still -/
def DOk (n k : Nat) (M : List MO) : Prop := ∃ a b c : Int, M[n]? = some (.lst [.int a, .int b, .int c]) ∧ 0 ≤ a ∧ 0 ≤ b ∧ b < 2147480009 ∧ 0 ≤ c ∧ c + k ≤ 2 ^ 60
theorem DOk.mono {n k j : Nat} {M : List MO} (h : DOk n k M) (hj : j ≤ k) : DOk n j M := by
  obtain ⟨a, b, c, h1, h2, h3, h4, h5, h6⟩ := h
  exact ⟨a, b, c, h1, h2, h3, h4, h5, by omega⟩
@[simp] theorem at3_0 {x y z : D} : atI [x, y, z] 0 = some x := id rfl
@[simp] theorem at3_1 {x y z : D} : atI [x, y, z] 1 = some y := id rfl
@[simp] theorem at3_2 {x y z : D} : atI [x, y, z] 2 = some z := id rfl
@[simp] theorem ix3_0 : ixN 3 0 = some 0 := id rfl
@[simp] theorem ix3_1 : ixN 3 1 = some 1 := id rfl
@[simp] theorem ix3_2 : ixN 3 2 = some 2 := id rfl
theorem ixM_objI {n : Nat} {i : Int} {M : List MO} : ixM (.obj n) (.int i) M = match M[n]? with
  | some (.lst ds) => (atI ds i).map fun d => ((d, false), M)
  | _ => none := id rfl
theorem roll {M : List MO} {n k : Nat} {total : Int} (h : DOk n (k + 1) M) (ht : 0 < total) (ht2 : total < 1073741824) :
    ∃ r : Int, ∃ M', F__law_roll [.obj n, .int total] M = some ((.int r, false), M') ∧ 0 ≤ r ∧ r < total ∧ DOk n k M' ∧ M'.length = M.length := by
  obtain ⟨a, b, c, hM, ha, hb, hb2, hc, hck⟩ := h
  have hn : n < M.length := (List.getElem?_eq_some_iff.mp hM).1
  unfold F__law_roll B__law_roll
  by_cases hp : 0 < a
  · refine ⟨a % total, M.set n (.lst [.int (a / total), .int b, .int c]), ?_, Int.emod_nonneg _ (by omega), Int.emod_lt_of_pos _ ht, ⟨a / total, b, c, by rw [List.getElem?_set_self hn], Int.ediv_nonneg ha (by omega), hb, hb2, hc, by omega⟩, by rw [List.length_set]⟩
    simp [v_mkFn, hM, ixM_objI, hp, w_modI ht, w_divI ⟨ht, ht2⟩]
  · have ea : a = 0 := by omega
    subst ea
    have m1 : dMul (.int (c + 1)) (.int (c + 1)) = some (.int ((c + 1) * (c + 1)), false) := w_mulI (.inl ⟨by omega, by omega⟩)
    have m2 : dMul (.int ((c + 1) * (c + 1))) (.int 2003) = some (.int ((c + 1) * (c + 1) * 2003), false) := w_mulI (.inr ⟨by decide, by decide⟩)
    have m3 : dMul (.int b) (.int 48271) = some (.int (b * 48271), false) := w_mulI (.inr ⟨by decide, by decide⟩)
    have m4 : ∀ x : Int, dMod (.int x) (.int 2147480009) = some (.int (x % 2147480009), false) := fun x => w_modI (by decide)
    have m5 : ∀ x : Int, dDiv (.int x) (.int 197) = some (.int (x / 197), false) := fun x => w_divI (by decide)
    refine ⟨(b * 48271 + (c + 1) * (c + 1) * 2003 + 91) % 2147480009 / 197 % total, M.set n (.lst [.int 0, .int ((b * 48271 + (c + 1) * (c + 1) * 2003 + 91) % 2147480009), .int (c + 1)]), ?_, Int.emod_nonneg _ (by omega), Int.emod_lt_of_pos _ ht, ⟨0, _, c + 1, by rw [List.getElem?_set_self hn], by omega, Int.emod_nonneg _ (by decide), Int.emod_lt_of_pos _ (by decide), by omega, by omega⟩, by rw [List.length_set]⟩
    simp [v_mkFn, hM, ixM_objI, List.getElem?_set_self hn, m1, m2, m3, m4, m5, w_modI ht, List.set_set]
/-- a roll as a number -/
theorem rollN {M : List MO} {n k total : Nat} (h : DOk n (k + 1) M) (ht : 0 < total) (ht2 : total < 1073741824) :
    ∃ r : Nat, ∃ M', F__law_roll [.obj n, .int (total : Nat)] M = some ((.int (r : Nat), false), M') ∧ r < total ∧ DOk n k M' ∧ M'.length = M.length := by
  obtain ⟨r, M', h1, h2, h3, h4⟩ := roll (total := (total : Nat)) h (by omega) (by omega)
  refine ⟨r.toNat, M', ?_, by omega, h4⟩
  rw [h1, Int.toNat_of_nonneg h2]
theorem lim1 {n : Nat} (h : n ≤ 1000000) : n ≤ LIM := Nat.le_trans h (by decide)
def stepD (b c : Int) : Int := (b * 69621 + c % 2147480009) % 2147480009
theorem dice_b {cs : List Int} : ∀ {b : Int}, 0 ≤ b → b < 2147480009 → 0 ≤ cs.foldl stepD b ∧ cs.foldl stepD b < 2147480009 := by
  induction cs with
  | nil => exact fun h1 h2 => ⟨h1, h2⟩
  | cons c cs ih => exact fun _ _ => ih (Int.emod_nonneg _ (by decide)) (Int.emod_lt_of_pos _ (by decide))
theorem dice {M : List MO} {script : List Int} {spot : Nat} (hs : spot < 64) : ∃ a b : Int, F__law_dice [.scr (dI script), .int (spot : Nat)] M = some ((.lst [.int a, .int b, .int 0], true), M) ∧ 0 ≤ a ∧ 0 ≤ b ∧ b < 2147480009 := by
  obtain ⟨own, hown⟩ : ∃ own : Int, (spot < script.length ∧ atI (dI script) (spot : Int) = some (.int own)) ∨ (¬ spot < script.length ∧ own = 907 * (spot : Int) + 41) := by
    by_cases h : spot < script.length
    · refine ⟨script[spot], .inl ⟨h, ?_⟩⟩
      rw [atI_nat', List.getElem?_map, List.getElem?_eq_getElem h]
      rfl
    · exact ⟨_, .inr ⟨h, rfl⟩⟩
  have hm0 : dMul (.int 907) (.int (spot : Nat)) = some (.int (907 * (spot : Int)), false) := w_mulI (.inl ⟨by decide, by decide⟩)
  have hm : dMul (.int 6997) (.int (spot : Nat)) = some (.int (6997 * (spot : Int)), false) := w_mulI (.inl ⟨by decide, by decide⟩)
  have hcut : cutD (dI script) none (some 6) = dI (script.take 6) := by
    have z := cut_take (dI script) 6
    rw [← List.map_take] at z
    exact z
  have hadd : dAdd (.lst (dI (script.take 6))) (.lst [.int own]) = some (.lst ((script.take 6 ++ [own]).map Enc.e), true) := by
    rw [w_addL (lim1 (by
      rw [List.length_map, List.length_take]
      show min 6 script.length + 1 ≤ _
      omega)), List.map_append]
    rfl
  have L : forL [.fz (.scr (dI script)), .fz (.int (spot : Nat)), .fz (.int own), .fz (.int (700067 + 6997 * (spot : Int))), .no] (.nm 4) L__law_dice_1 ((script.take 6 ++ [own]).map Enc.e) [.fz (.scr (dI script)), .fz (.int (spot : Nat)), .fz (.int own), .fz (.int (700067 + 6997 * (spot : Int))), .no] M
      = some (.nx, [.fz (.scr (dI script)), .fz (.int (spot : Nat)), .fz (.int own), .fz (.int ((script.take 6 ++ [own]).foldl stepD (700067 + 6997 * (spot : Int)))), .no], M) := by
    refine forL_pre (fun pre : List Int => [.fz (.scr (dI script)), .fz (.int (spot : Nat)), .fz (.int own), .fz (.int (pre.foldl stepD (700067 + 6997 * (spot : Int)))), .no]) rfl fun pre a post e => ?_
    have m1 : ∀ b : Int, dMul (.int b) (.int 69621) = some (.int (b * 69621), false) := fun b => w_mulI (.inr ⟨by decide, by decide⟩)
    have m2 : ∀ x : Int, dMod (.int x) (.int 2147480009) = some (.int (x % 2147480009), false) := fun x => w_modI (by decide)
    rw [List.foldl_append]
    generalize List.foldl stepD (700067 + 6997 * (spot : Int)) pre = b
    simp [stepL, L__law_dice_1, m1, m2, stepD]
  have hb := dice_b (cs := script.take 6 ++ [own]) (b := 700067 + 6997 * (spot : Int)) (by omega) (by omega)
  generalize List.foldl stepD (700067 + 6997 * (spot : Int)) (script.take 6 ++ [own]) = b at L hb
  generalize script.take 6 ++ [own] = xs at L hadd
  generalize dI (script.take 6) = ys at hcut hadd
  have l1 := lim1 (n := 1) (by decide)
  have l3 := lim1 (n := 3) (by decide)
  refine ⟨if own < 0 ∨ 10000000000000000 ≤ own then (if own < 0 then -own else own) else 0, b, ?_, ?_, hb⟩
  · have ends : (if own < 0 ∨ 10000000000000000 ≤ own then (if own < 0 then -own else own) else 0) = (if own < 0 then -own else if 10000000000000000 ≤ own then own else 0) := by
      by_cases h1 : own < 0 <;> by_cases h2 : 10000000000000000 ≤ own <;> simp [h1, h2]
    rw [ends]
    rcases hown with ⟨h, ha⟩ | ⟨h, rfl⟩
    · by_cases h1 : own < 0
      · simp [F__law_dice, B__law_dice, v_mkFn, h, ha, w_ixS, hm, hcut, hadd, L, l1, l3, h1]
      · by_cases h2 : 10000000000000000 ≤ own <;> simp [F__law_dice, B__law_dice, v_mkFn, h, ha, w_ixS, hm, hcut, hadd, L, l1, l3, h1, h2]
    · have h1 : ¬ (907 * (spot : Int) + 41 < 0) := by omega
      have h2 : ¬ (10000000000000000 ≤ 907 * (spot : Int) + 41) := by omega
      simp [F__law_dice, B__law_dice, v_mkFn, h, hm0, hm, hcut, hadd, L, l1, l3, h1, h2]
  · split
    · split <;> omega
    · omega
end LW

set_option Elab.async false
set_option linter.all false
set_option maxRecDepth 100000
/-! bodies -/
namespace LW
open PySem PySem.Spec L2 R
def L__law_big_schema_1 : ES := sPre [] (sSet 1 (eOld (eFz (eOp dAdd (eVar 1) (eFz (eTup (eCons (eFz (eTup (eCons (eVar 2) (eCons (eFz (eOp dAdd (eFz (eOld (eCst (.int 1)))) (eFz (eFn F__law_roll (eCons (eVar 0) (eCons (eFz (eOld (eCst (.int 4)))) (eNil))))))) (eNil))))) (eNil))))))))
def B__law_big_schema : ES := sSeq (sPre [] (sSet 1 (eOld (eFz (eTup (eNil)))))) (sSeq (sPre [] (sFor (iSeq (eFz (eSl (eFz (eLst (eCons (eFz (eOld (eCst (.str "ant")))) (eCons (eFz (eOld (eCst (.str "bee")))) (eCons (eFz (eOld (eCst (.str "cow")))) (eCons (eFz (eOld (eCst (.str "dog")))) (eNil))))))) (eNoP) (eSomeP (eFz (eOp dAdd (eFz (eOld (eCst (.int 1)))) (eFz (eFn F__law_roll (eCons (eVar 0) (eCons (eFz (eOld (eCst (.int 4)))) (eNil))))))))))) (.nm 2) (L__law_big_schema_1))) (sRetV 1))
def F__law_big_schema : Fn := mkFn 3 B__law_big_schema
def L__law_big_store_1 : ES := sSeq (sPre [] (sSet 8 (eOld (eFz (eCall dTuple (eCons (eFz (eComp [9] (iRng (eCons (eVar 5) (eNil))) (.nm 9) eYes (eFz (eFn F__law_roll (eCons (eVar 0) (eCons (eFz (eOld (eCst (.int 10)))) (eNil))))))) (eNil))))))) (sPre [] (sIf (tbB (eFz (eOp (dIn true) (eVar 8) (eVar 6)))) (sPre [] (sSet 6 (eOld (eFz (eOp dAdd (eVar 6) (eFz (eTup (eCons (eVar 8) (eNil))))))))) (sNx)))
def L__law_big_store_2 : ES := sSeq (sPre [] (sSet 6 (eOld (eFz (eTup (eNil)))))) (sSeq (sPre [] (sFor (iRng (eCons (eFz (eFn F__law_roll (eCons (eVar 0) (eCons (eFz (eOp dAdd (eVar 2) (eFz (eOld (eCst (.int 1)))))) (eNil))))) (eNil))) (.nm 7) (L__law_big_store_1))) (sPre [] (sSet 3 (eOld (eFz (eOp dAdd (eVar 3) (eFz (eTup (eCons (eFz (eCall dTuple (eCons (eFz (eCall dSorted (eCons (eVar 6) (eNil)))) (eNil)))) (eNil))))))))))
def B__law_big_store : ES := sSeq (sPre [] (sSet 3 (eOld (eFz (eTup (eNil)))))) (sSeq (sPre [] (sFor (iSeq (eVar 1)) (.tp [.nm 4, .nm 5]) (L__law_big_store_2))) (sRetV 3))
def F__law_big_store : Fn := mkFn 10 B__law_big_store
end LW

set_option Elab.async false
set_option linter.all false
set_option maxRecDepth 100000
set_option maxHeartbeats 1000000
/-! KB: drawn large schemas and stores -/
namespace LW
open PySem PySem.Spec L2 R
def names4 : List Str := ["ant", "bee", "cow", "dog"]
theorem word4 : ∀ x ∈ names4, ∀ M, F_is_word [.str x] M = some ((.bl true, false), M) := by
  intro x hx M
  simp only [names4, List.mem_cons, List.not_mem_nil, or_false] at hx
  rcases hx with rfl | rfl | rfl | rfl <;> kernel_rfl
theorem ris4 : names4.Pairwise fun a b => ltS a b = true := by decide +kernel
theorem take_ok4 {sch : Sch} {r : Nat} (hr : r < 4) (hn : names sch = names4.take (1 + r)) (hw : ∀ p ∈ sch, 1 ≤ p.2 ∧ p.2 ≤ 4) : SchOk sch := by
  have hl : sch.length = 1 + r := by
    have z := congrArg List.length hn
    simp [names, names4] at z
    omega
  refine ⟨by omega, by omega, fun p hp M => word4 _ ?_ M, hw, ?_⟩
  · have : p.1 ∈ names sch := List.mem_map_of_mem hp
    rw [hn] at this
    exact List.mem_of_mem_take this
  · rw [hn]
    exact List.Pairwise.sublist (List.take_sublist ..) ris4
theorem big_schema {n k : Nat} {M : List MO} (h : DOk n (k + 5) M) : ∃ sch M', F__law_big_schema [.obj n] M = some ((Enc.e sch, false), M') ∧ SchOk sch ∧ DOk n k M' ∧ M'.length = M.length := by
  obtain ⟨r, M1, e1, hr, h1, l1⟩ := rollN (total := 4) h (by decide) (by decide)
  have L : ∃ env' M', forL [.fz (.obj n), .fz (Enc.e ([] : Sch)), .no] (.nm 2) L__law_big_schema_1 ((names4.take (1 + r)).map Enc.e) [.fz (.obj n), .fz (Enc.e ([] : Sch)), .no] M1 = some (.nx, env', M') ∧
      ∃ sch : Sch, env' = [.fz (.obj n), .fz (Enc.e sch), .no] ∧ names sch = names4.take (1 + r) ∧ (∀ p ∈ sch, 1 ≤ p.2 ∧ p.2 ≤ 4) ∧ DOk n (k + 4 - (names4.take (1 + r)).length) M' ∧ M'.length = M.length := by
    refine forL_inv (fun (pre : List Str) env M' => ∃ sch : Sch, env = [.fz (.obj n), .fz (Enc.e sch), .no] ∧ names sch = pre ∧ (∀ p ∈ sch, 1 ≤ p.2 ∧ p.2 ≤ 4) ∧ DOk n (k + 4 - pre.length) M' ∧ M'.length = M.length) (fun pre a post env M2 he ⟨sch, hE, hn, hw, hd, hl⟩ => ?_) ⟨[], rfl, rfl, by simp, h1, l1⟩
    subst hE
    have hlen : pre.length + 1 ≤ 4 := by
      have z := congrArg List.length he
      simp [names4] at z
      omega
    obtain ⟨w, M3, e3, hw3, h3, l3⟩ := rollN (k := k + 4 - (pre.length + 1)) (total := 4) (hd.mono (by omega)) (by decide) (by decide)
    have hs : sch.length = pre.length := by rw [← hn]; simp [names]
    have add := E_add (xs := sch) (ys := [(a, 1 + w)]) (lim40 (by simp; omega))
    refine ⟨[.fz (.obj n), .fz (Enc.e (sch ++ [(a, 1 + w)])), .no], M3, ?_, sch ++ [(a, 1 + w)], rfl, by simp [names] at hn ⊢; exact hn, fun p hp => ?_, by simpa using h3, by rw [l3, hl]⟩
    · have e2 : D.tup [D.tup [D.str a, D.int (1 + (w : Int))]] = Enc.e [(a, 1 + w)] := by
        simp [e_list, e_pair]
      have e3' : F__law_roll [.obj n, .int 4] M2 = some ((.int (w : Nat), false), M3) := e3
      simp [stepL, L__law_big_schema_1, e3', e2, add, show (2 : Nat) ≤ LIM from lim40 (by decide), show (1 : Nat) ≤ LIM from lim40 (by decide)]
    · rcases List.mem_append.mp hp with z | z
      · exact hw p z
      · rw [List.mem_singleton.mp z]
        exact ⟨by simp, by simp; omega⟩
  obtain ⟨env', M', e, sch, rfl, hn, hw, hd, hl⟩ := L
  refine ⟨sch, M', ?_, take_ok4 hr hn hw, hd.mono (by simp [names4]; omega), hl⟩
  have e4 : D.lst [.str "ant", .str "bee", .str "cow", .str "dog"] = eL names4 := rfl
  have e1' : F__law_roll [.obj n, .int 4] M = some ((.int (r : Nat), false), M1) := e1
  have e0 : D.tup [] = Enc.e ([] : Sch) := rfl
  have ec : cutD names4 none (some (1 + (r : Int))) = names4.take (1 + r) := by
    have z := cut_take names4 (1 + r)
    simpa using z
  generalize names4.take (1 + r) = xs at e ec
  simp [F__law_big_schema, v_mkFn, B__law_big_schema, e4, e1', e0, ec, e, show (0 : Nat) ≤ LIM from lim40 (by decide), show (4 : Nat) ≤ LIM from lim40 (by decide)]
/-- cells, drawn one by one -/
theorem draw_cells {n k span j : Nat} {b : Int} {env : R.Env} {M : List MO} (h0 : env[0]? = some (.fz (.obj n))) (hj : j ≠ 0) (hl : j < env.length) (hb : 0 < b) (hb2 : b < 1073741824) (h : DOk n (k + span) M) :
    ∃ (r : Row) (M' : List MO), compL env (.nm j) eYes (eFz (eFn F__law_roll (eCons (eVar 0) (eCons (eCst (.int b)) eNil)))) (rints 0 span) M = some (r.map Enc.e, M') ∧ r.length = span ∧ (∀ c ∈ r, 0 ≤ c ∧ c < b) ∧ DOk n k M' ∧ M'.length = M.length := by
  have L := compL_inv (env := env) (tg := .nm j) (cond := eYes) (elt := eFz (eFn F__law_roll (eCons (eVar 0) (eCons (eCst (.int b)) eNil)))) (g := fun i : Nat => D.int (0 + (i : Int))) (xs := List.range span) (M := M)
    (fun pre ds M' => ∃ r : Row, ds = r.map Enc.e ∧ r.length = pre.length ∧ (∀ c ∈ r, 0 ≤ c ∧ c < b) ∧ DOk n (k + span - pre.length) M' ∧ M'.length = M.length) (fun pre a post ds M1 he ⟨r, hd, hlen, hc, hD, hM⟩ => by
      have hp : pre.length + 1 ≤ span := by
        have z := congrArg List.length he
        simp at z
        omega
      obtain ⟨c, M2, e2, c0, c1, h2, l2⟩ := roll (k := k + span - (pre.length + 1)) (hD.mono (by omega)) hb hb2
      have hs0 : (env.set j (.fz (.int (a : Int))))[0]? = some (.fz (.obj n)) := by rw [List.getElem?_set_ne hj]; exact h0
      refine ⟨some (.int c), M2, ?_, r ++ [c], by rw [hd]; simp, by simp [hlen], fun x hx => ?_, by simpa using h2, by rw [l2, hM]⟩
      · simp [stepC, kC1, hl, hs0, e2]
      · rcases List.mem_append.mp hx with z | z
        · exact hc x z
        · rw [List.mem_singleton.mp z]
          exact ⟨c0, c1⟩) ⟨[], rfl, rfl, by simp, h, rfl⟩
  obtain ⟨ds, M', e, r, rfl, hlen, hc, hD, hM⟩ := L
  rw [List.length_range] at hlen hD
  exact ⟨r, M', e, hlen, hc, hD.mono (by omega), hM⟩
theorem isRow_of {sch : Sch} {t : Str} {r : Row} (hl : r.length = width sch t) (hc : ∀ c ∈ r, 0 ≤ c ∧ c < 10) : isRow sch t r = true := by
  unfold isRow
  rw [Bool.and_eq_true, decide_eq_true_eq]
  refine ⟨hl, List.all_eq_true.mpr fun c h => ?_⟩
  have := hc c h
  simp
  omega
/-- the rows of a table, drawn -/
theorem draw_rows {n k span many : Nat} {d1 d2 d3 d4 d5 : Sl} {M : List MO} (hs : 1 ≤ span) (hs4 : span ≤ 4) (hm : many ≤ 40) (h : DOk n (k + 4 * many) M) :
    ∃ (rs : List Row) (M' : List MO), forL [.fz (.obj n), d1, d2, d3, d4, .fz (.int (span : Nat)), .fz (Enc.e ([] : List Row)), .no, .no, .no] (.nm 7) L__law_big_store_1 (rints 0 many) [.fz (.obj n), d1, d2, d3, d4, .fz (.int (span : Nat)), .fz (Enc.e ([] : List Row)), .no, .no, .no] M
      = some (.nx, [.fz (.obj n), d1, d2, d3, d4, .fz (.int (span : Nat)), .fz (Enc.e rs), .no, .no, .no], M') ∧ rs.length ≤ many ∧ rs.Nodup ∧ (∀ r ∈ rs, r.length = span ∧ ∀ c ∈ r, 0 ≤ c ∧ c < 10) ∧ DOk n k M' ∧ M'.length = M.length := by
  have L := forL_inv (e0 := [.fz (.obj n), d1, d2, d3, d4, .fz (.int (span : Nat)), .fz (Enc.e ([] : List Row)), .no, .no, .no]) (env := [.fz (.obj n), d1, d2, d3, d4, .fz (.int (span : Nat)), .fz (Enc.e ([] : List Row)), .no, .no, .no]) (t := .nm 7) (body := L__law_big_store_1) (g := fun i : Nat => D.int (0 + (i : Int))) (xs := List.range many) (M := M)
    (fun pre env M' => ∃ rs : List Row, env = [.fz (.obj n), d1, d2, d3, d4, .fz (.int (span : Nat)), .fz (Enc.e rs), .no, .no, .no] ∧ rs.length ≤ pre.length ∧ rs.Nodup ∧ (∀ r ∈ rs, r.length = span ∧ ∀ c ∈ r, 0 ≤ c ∧ c < 10) ∧ DOk n (k + 4 * (many - pre.length)) M' ∧ M'.length = M.length) (fun pre a post env M1 he ⟨rs, hE, hl, hn, hr, hD, hM⟩ => by
      subst hE
      have hp : pre.length + 1 ≤ many := by
        have z := congrArg List.length he
        simp at z
        omega
      obtain ⟨r, M2, e2, rl, rc, h2, l2⟩ := draw_cells (env := [.fz (.obj n), d1, d2, d3, d4, .fz (.int (span : Nat)), .fz (Enc.e rs), .fz (.int (a : Int)), .no, .no]) (j := 9) (b := 10) (k := k + 4 * (many - (pre.length + 1))) (span := span) rfl (by decide) (by simp) (by decide) (by decide) (hD.mono (by omega))
      have hsp : rng62 (span : Int) = true := by
        unfold rng62
        rw [decide_eq_true_eq]
        omega
      have hrl : r.length ≤ LIM := lim40 (by omega)
      have e3 : D.tup (r.map Enc.e) = Enc.e r := rfl
      by_cases hmem : r ∈ rs
      · refine ⟨[.fz (.obj n), d1, d2, d3, d4, .fz (.int (span : Nat)), .fz (Enc.e rs), .no, .no, .no], M2, ?_, rs, rfl, by simp; omega, hn, hr, by simpa using h2, by rw [l2, hM]⟩
        simp [stepL, L__law_big_store_1, hsp, e2, hrl, e3, hmem]
      · have add := E_add (xs := rs) (ys := [r]) (lim40 (by simp; omega))
        have e4 : D.tup [Enc.e r] = Enc.e [r] := rfl
        refine ⟨[.fz (.obj n), d1, d2, d3, d4, .fz (.int (span : Nat)), .fz (Enc.e (rs ++ [r])), .no, .no, .no], M2, ?_, rs ++ [r], rfl, by simp; omega, ?_, fun x hx => ?_, by simpa using h2, by rw [l2, hM]⟩
        · simp [stepL, L__law_big_store_1, hsp, e2, hrl, e3, hmem, e4, add, show (1 : Nat) ≤ LIM from lim40 (by decide)]
        · rw [List.nodup_append]
          refine ⟨hn, by simp, fun x hx y hy e => ?_⟩
          rw [List.mem_singleton.mp hy] at e
          exact hmem (e ▸ hx)
        · rcases List.mem_append.mp hx with z | z
          · exact hr x z
          · rw [List.mem_singleton.mp z]
            exact ⟨rl, rc⟩) ⟨[], rfl, by simp, by simp, by simp, by simpa using h, rfl⟩
  obtain ⟨env', M', e, rs, rfl, h1, h2, h3, h4, h5⟩ := L
  rw [List.length_range] at h1 h4
  exact ⟨rs, M', e, h1, h2, h3, h4.mono (by omega), h5⟩
/-- rows of a table with so many columns, at most so many -/
def Cols (most w : Nat) (rs : List Row) : Prop := rs.length ≤ most ∧ (∀ r ∈ rs, r.length = w ∧ ∀ c ∈ r, 0 ≤ c ∧ c < 10) ∧ rs.Pairwise (· < ·)
theorem names_at {sch : Sch} {t : Str} (ht : t ∈ names sch) : ∃ i, ∃ h : i < sch.length, sch[i].1 = t := by
  obtain ⟨p, hp, rfl⟩ := List.mem_map.mp ht
  obtain ⟨i, hi, e⟩ := List.mem_iff_getElem.mp hp
  exact ⟨i, hi, by rw [e]⟩
theorem sto_of_cols {sch : Sch} {st : Sto} {most : Nat} (h : SchOk sch) (hm : most ≤ 40) (hl : st.length = sch.length) (hc : ∀ i (hi : i < sch.length), Cols most sch[i].2 (st.getD i [])) : StoOk sch st ∧ ∀ t ∈ names sch, (part sch st t).length ≤ most := by
  have key : ∀ t ∈ names sch, Cols most (width sch t) (part sch st t) := fun t ht => by
    obtain ⟨i, hi, rfl⟩ := names_at ht
    rw [part_at h.nd hi, width_mem h.nd (List.getElem_mem hi)]
    exact hc i hi
  refine ⟨⟨hl, fun t ht => ?_⟩, fun t ht => (key t ht).1⟩
  obtain ⟨a, b, c⟩ := key t ht
  exact ⟨by omega, fun r hr => isRow_of (b r hr).1 (b r hr).2, c⟩
theorem big_store {n k most : Nat} {sch : Sch} {M : List MO} (hs : SchOk sch) (hm : most ≤ 40) (h : DOk n (k + 1000) M) :
    ∃ (st : Sto) (M' : List MO), F__law_big_store [.obj n, Enc.e sch, .int (most : Nat)] M = some ((Enc.e st, false), M') ∧ (StoOk sch st ∧ ∀ t ∈ names sch, (part sch st t).length ≤ most) ∧ DOk n k M' ∧ M'.length = M.length := by
  have L := forL_inv (e0 := [.fz (.obj n), .fz (Enc.e sch), .fz (.int (most : Nat)), .fz (Enc.e ([] : Sto)), .no, .no, .no, .no, .no, .no]) (env := [.fz (.obj n), .fz (Enc.e sch), .fz (.int (most : Nat)), .fz (Enc.e ([] : Sto)), .no, .no, .no, .no, .no, .no]) (t := .tp [.nm 4, .nm 5]) (body := L__law_big_store_2) (g := Enc.e) (xs := sch) (M := M)
    (fun (pre : Sch) env M' => ∃ st : Sto, env = [.fz (.obj n), .fz (Enc.e sch), .fz (.int (most : Nat)), .fz (Enc.e st), .no, .no, .no, .no, .no, .no] ∧ st.length = pre.length ∧ (∀ i (hi : i < pre.length), Cols most pre[i].2 (st.getD i [])) ∧ DOk n (k + 200 * (4 - pre.length)) M' ∧ M'.length = M.length) (fun pre a post env M1 he ⟨st, hE, hl, hc, hD, hM⟩ => by
      subst hE
      have h4 := hs.l4
      have hp : pre.length + 1 ≤ 4 := by
        have z := congrArg List.length he
        simp at z
        omega
      have hw := hs.wid a (by rw [he]; simp)
      obtain ⟨many, M2, e2, hmany, h2, l2⟩ := rollN (k := k + 200 * (4 - (pre.length + 1)) + 180) (total := most + 1) (hD.mono (by omega)) (by omega) (by omega)
      obtain ⟨rs, M3, e3, r1, r2, r3, h3, l3⟩ := draw_rows (d1 := .fz (Enc.e sch)) (d2 := .fz (.int (most : Nat))) (d3 := .fz (Enc.e st)) (d4 := .fz (.str a.1)) (d5 := .no) (k := k + 200 * (4 - (pre.length + 1))) (span := a.2) (many := many) hw.1 hw.2 (by omega) (h2.mono (by omega))
      have hnil : [] ∉ rs := fun hx => by
        have := (r3 [] hx).1
        simp at this
        omega
      have add := E_add (xs := st) (ys := [sortR rs]) (lim40 (by simp; omega))
      have e4 : D.tup [Enc.e (sortR rs)] = Enc.e [sortR rs] := rfl
      have hr : rng62 (many : Int) = true := by
        unfold rng62
        rw [decide_eq_true_eq]
        omega
      have e2' : F__law_roll [.obj n, .int ((most : Int) + 1)] M1 = some ((.int (many : Nat), false), M2) := e2
      have e0 : D.tup [] = Enc.e ([] : List Row) := rfl
      refine ⟨[.fz (.obj n), .fz (Enc.e sch), .fz (.int (most : Nat)), .fz (Enc.e (st ++ [sortR rs])), .no, .no, .no, .no, .no, .no], M3, ?_, st ++ [sortR rs], rfl, by simp [hl], fun i hi => ?_, by simpa using h3, by rw [l3, l2, hM]⟩
      · simp [stepL, L__law_big_store_2, e0, e2', hr, e3, hnil, e4, add, show (0 : Nat) ≤ LIM from lim40 (by decide), show (1 : Nat) ≤ LIM from lim40 (by decide)]
      · rw [List.getD_eq_getElem?_getD]
        rcases Nat.lt_or_ge i pre.length with z | z
        · rw [List.getElem_append_left z, List.getElem?_append_left (by omega), ← List.getD_eq_getElem?_getD]
          exact hc i z
        · have ei : i = pre.length := by simp at hi; omega
          subst ei
          rw [List.getElem_append_right (Nat.le_refl _), List.getElem?_append_right (by omega)]
          simp [hl]
          exact ⟨by rw [len_sortR]; omega, fun r hr => r3 r (mem_sortR.mp hr), sortR_pw r2⟩) ⟨[], rfl, rfl, fun i hi => by simp at hi, by simpa using h.mono (by omega), rfl⟩
  obtain ⟨env', M', e, st, rfl, hl, hc, hD, hM⟩ := L
  refine ⟨st, M', ?_, sto_of_cols hs hm hl hc, hD.mono (by omega), hM⟩
  have e0 : D.tup [] = Enc.e ([] : Sto) := rfl
  simp [F__law_big_store, v_mkFn, B__law_big_store, e0, e, show (0 : Nat) ≤ LIM from lim40 (by decide)]
end LW

set_option Elab.async false
set_option linter.all false
set_option maxRecDepth 100000
/-! bodies -/
namespace LW
open PySem PySem.Spec L2 R
def B_is_letter : ES := sPre [] (sRet (vAnd (tbB (eFz (eFn F_is_word (eCons (eVar 0) (eNil))))) (eOp dEq (eFz (eCall dLen (eCons (eVar 0) (eNil)))) (eFz (eOld (eCst (.int 1)))))))
def F_is_letter : Fn := mkFn 1 B_is_letter
def B_is_term : ES := sPre [] (sRet (vOr (tbB (eFz (eFn F_is_cell (eCons (eVar 0) (eNil))))) (eFn F_is_letter (eCons (eVar 0) (eNil)))))
def F_is_term : Fn := mkFn 1 B_is_term
def B_is_action : ES := sSeq (sPre [] (sIf (eOr (eNot (tbV (eFz (eFn F_is_tuple (eCons (eVar 1) (eCons (eFz (eOld (eCst (.int 3)))) (eCons (eFz (eOld (eCst (.int 3)))) (eNil)))))))) (tbB (eFz (eOp (dIn true) (eFz (eIxM (eVar 1) (eFz (eOld (eCst (.int 0)))))) (eFz (eTup (eCons (eFz (eOld (eCst (.str "put")))) (eCons (eFz (eOld (eCst (.str "take")))) (eNil))))))))) (sPre [] (sRet (eOld (eCst (.bl false))))) (sNx))) (sSeq (sPre [] (sIf (eOr (eNot (tbV (eFz (eUn (dIsi "str") (eFz (eIxM (eVar 1) (eFz (eOld (eCst (.int 1)))))))))) (tbB (eFz (eOp (dIn true) (eFz (eIxM (eVar 1) (eFz (eOld (eCst (.int 1)))))) (eFz (eFn F_names_in (eCons (eVar 0) (eNil)))))))) (sPre [] (sRet (eOld (eCst (.bl false))))) (sNx))) (sSeq (sPre [] (sSet 2 (eOld (eFz (eFn F_width (eCons (eVar 0) (eCons (eFz (eIxM (eVar 1) (eFz (eOld (eCst (.int 1)))))) (eNil)))))))) (sPre [] (sRet (vAnd (tbB (eFz (eFn F_is_tuple (eCons (eFz (eIxM (eVar 1) (eFz (eOld (eCst (.int 2)))))) (eCons (eVar 2) (eCons (eVar 2) (eNil))))))) (eCall dAll (eCons (eFz (eComp [3] (iSeq (eFz (eIxM (eVar 1) (eFz (eOld (eCst (.int 2))))))) (.nm 3) eYes (eFz (eFn F_is_term (eCons (eVar 3) (eNil)))))) (eNil))))))))
def F_is_action : Fn := mkFn 4 B_is_action
def B_are_actions : ES := sSeq (sPre [] (sIf (eOr (eNot (tbV (eFz (eFn F_is_tuple (eCons (eVar 1) (eCons (eFz (eOld (eCst (.int 0)))) (eCons (eCst (.int 12)) (eNil)))))))) (eNot (tbV (eFz (eCall dAll (eCons (eFz (eComp [2] (iSeq (eVar 1)) (.nm 2) eYes (eFz (eFn F_is_action (eCons (eVar 0) (eCons (eVar 2) (eNil))))))) (eNil))))))) (sPre [] (sRet (eOld (eCst (.bl false))))) (sNx))) (sPre [] (sRet (eCall dAll (eCons (eFz (eComp [2] (iSeq (eVar 1)) (.nm 2) eYes (eFz (eFn F_is_row_of (eCons (eVar 0) (eCons (eFz (eIxM (eVar 2) (eFz (eOld (eCst (.int 1)))))) (eCons (eFz (eIxM (eVar 2) (eFz (eOld (eCst (.int 2)))))) (eNil)))))))) (eNil)))))
def F_are_actions : Fn := mkFn 3 B_are_actions
def B_demand_actions : ES := sSeq (sPre [] (sEx (eFn F_demand_schema (eCons (eVar 0) (eNil))))) (sPre [] (sEx (eFn F_demand (eCons (eFz (eFn F_are_actions (eCons (eVar 0) (eCons (eVar 1) (eNil))))) (eCons (eVar 2) (eNil))))))
def F_demand_actions : Fn := mkFn 3 B_demand_actions
def L_run_1 : ES := sPre [] (sSet 1 (eOld (eFz (eIf (tbB (eFz (eOp dEq (eVar 3) (eFz (eOld (eCst (.str "put"))))))) (eFn F_put (eCons (eVar 0) (eCons (eVar 1) (eCons (eVar 4) (eCons (eVar 5) (eNil)))))) (eFn F_take (eCons (eVar 0) (eCons (eVar 1) (eCons (eVar 4) (eCons (eVar 5) (eNil))))))))))
def B_run : ES := sSeq (sPre [] (sFor (iSeq (eVar 2)) (.tp [.nm 3, .nm 4, .nm 5]) (L_run_1))) (sRetV 1)
def F_run : Fn := mkFn 6 B_run
def B_done : ES := sSeq (sPre [] (sEx (eFn F_demand_store (eCons (eVar 0) (eCons (eVar 1) (eCons (eFz (eOld (eCst (.str "store")))) (eNil))))))) (sSeq (sPre [] (sEx (eFn F_demand_actions (eCons (eVar 0) (eCons (eVar 2) (eCons (eFz (eOld (eCst (.str "actions")))) (eNil))))))) (sPre [] (sRet (eFn F_run (eCons (eVar 0) (eCons (eVar 1) (eCons (eVar 2) (eNil))))))))
def F_done : Fn := mkFn 3 B_done
def B_net : ES := sSeq (sPre [] (sEx (eFn F_demand_store (eCons (eVar 0) (eCons (eVar 1) (eCons (eFz (eOld (eCst (.str "store")))) (eNil))))))) (sSeq (sPre [] (sEx (eFn F_demand_actions (eCons (eVar 0) (eCons (eVar 2) (eCons (eFz (eOld (eCst (.str "actions")))) (eNil))))))) (sSeq (sPre [] (sSet 3 (eOld (eFz (eFn F_run (eCons (eVar 0) (eCons (eVar 1) (eCons (eVar 2) (eNil))))))))) (sPre [] (sRet (eTup (eCons (eFz (eFn F_minus (eCons (eVar 0) (eCons (eVar 3) (eCons (eVar 1) (eNil)))))) (eCons (eFz (eFn F_minus (eCons (eVar 0) (eCons (eVar 1) (eCons (eVar 3) (eNil)))))) (eNil))))))))
def F_net : Fn := mkFn 4 B_net
def B_taking_back : ES := sSeq (sPre [] (sTup (.tp [.nm 3, .nm 4]) (eFz (eFn F_net (eCons (eVar 0) (eCons (eVar 1) (eCons (eVar 2) (eNil)))))))) (sSeq (sPre [] (sSet 5 (eOld (eFz (eCall dTuple (eCons (eFz (eOp dAdd (eFz (eComp [6, 7] (iSeq (eVar 3)) (.tp [.nm 6, .nm 7]) eYes (eFz (eTup (eCons (eFz (eOld (eCst (.str "take")))) (eCons (eVar 6) (eCons (eVar 7) (eNil)))))))) (eFz (eComp [6, 7] (iSeq (eVar 4)) (.tp [.nm 6, .nm 7]) eYes (eFz (eTup (eCons (eFz (eOld (eCst (.str "put")))) (eCons (eVar 6) (eCons (eVar 7) (eNil)))))))))) (eNil))))))) (sSeq (sPre [] (sIf (tbB (eFz (eOp dGt (eFz (eCall dLen (eCons (eVar 5) (eNil)))) (eCst (.int 12))))) (sNone) (sNx))) (sRetV 5)))
def F_taking_back : Fn := mkFn 8 B_taking_back
def B_is_idle : ES := sPre [] (sRet (eOp dEq (eFz (eFn F_net (eCons (eVar 0) (eCons (eVar 1) (eCons (eVar 2) (eNil)))))) (eFz (eTup (eCons (eFz (eTup (eNil))) (eCons (eFz (eTup (eNil))) (eNil)))))))
def F_is_idle : Fn := mkFn 3 B_is_idle
def B_settled : ES := sSeq (sPre [] (sEx (eFn F_demand_actions (eCons (eVar 0) (eCons (eVar 1) (eCons (eFz (eOld (eCst (.str "actions")))) (eNil))))))) (sSeq (sPre [] (sSet 2 (eOld (eFz (eComp [3] (iSeq (eVar 1)) (.nm 3) eYes (eFz (eSl (eVar 3) (eSomeP (eFz (eOld (eCst (.int 1))))) (eNoP)))))))) (sPre [] (sRet (eCall dTuple (eCons (eFz (eComp [4, 3] (iEnumD (eVar 1)) (.tp [.nm 4, .nm 3]) (tbB (eFz (eOp (dIn true) (eFz (eSl (eVar 3) (eSomeP (eFz (eOld (eCst (.int 1))))) (eNoP))) (eFz (eSl (eVar 2) (eSomeP (eFz (eOp dAdd (eVar 4) (eFz (eOld (eCst (.int 1))))))) (eNoP)))))) (eVar 3))) (eNil))))))
def F_settled : Fn := mkFn 5 B_settled
def B_are_deeds : ES := sSeq (sPre [] (sIf (eNot (tbV (eFz (eFn F_is_tuple (eCons (eVar 1) (eCons (eFz (eOld (eCst (.int 0)))) (eCons (eCst (.int 6)) (eNil)))))))) (sPre [] (sRet (eOld (eCst (.bl false))))) (sNx))) (sPre [] (sRet (eCall dAll (eCons (eFz (eComp [2] (iSeq (eVar 1)) (.nm 2) eYes (eFz (vAnd (tbB (eFz (eFn F_are_actions (eCons (eVar 0) (eCons (eVar 2) (eNil)))))) (eOp dLe (eFz (eCall dLen (eCons (eVar 2) (eNil)))) (eCst (.int 4))))))) (eNil)))))
def F_are_deeds : Fn := mkFn 3 B_are_deeds
def B_demand_deeds : ES := sSeq (sPre [] (sEx (eFn F_demand_schema (eCons (eVar 0) (eNil))))) (sPre [] (sEx (eFn F_demand (eCons (eFz (eFn F_are_deeds (eCons (eVar 0) (eCons (eVar 1) (eNil))))) (eCons (eVar 2) (eNil))))))
def F_demand_deeds : Fn := mkFn 3 B_demand_deeds
def L_in_line_1 : ES := sPre [] (sSet 1 (eOld (eFz (eOp dAdd (eVar 1) (eVar 2)))))
def B_in_line : ES := sSeq (sPre [] (sSet 1 (eOld (eFz (eTup (eNil)))))) (sSeq (sPre [] (sFor (iSeq (eVar 0)) (.nm 2) (L_in_line_1))) (sRetV 1))
def F_in_line : Fn := mkFn 3 B_in_line
def B_last_ones : ES := sSeq (sPre [] (sSet 1 (eOld (eFz (eComp [2] (iSeq (eVar 0)) (.nm 2) eYes (eFz (eSl (eVar 2) (eSomeP (eFz (eOld (eCst (.int 1))))) (eNoP)))))))) (sPre [] (sRet (eCall dTuple (eCons (eFz (eComp [3, 2] (iEnumD (eVar 0)) (.tp [.nm 3, .nm 2]) (tbB (eFz (eOp (dIn true) (eFz (eSl (eVar 2) (eSomeP (eFz (eOld (eCst (.int 1))))) (eNoP))) (eFz (eSl (eVar 1) (eSomeP (eFz (eOp dAdd (eVar 3) (eFz (eOld (eCst (.int 1))))))) (eNoP)))))) (eVar 2))) (eNil)))))
def F_last_ones : Fn := mkFn 4 B_last_ones
def L_stores_along_1 : ES := sSeq (sPre [] (sSet 1 (eOld (eFz (eFn F_run (eCons (eVar 0) (eCons (eVar 1) (eCons (eVar 4) (eNil))))))))) (sPre [] (sApp 3 (eVar 1)))
def B_stores_along : ES := sSeq (sPre [] (sSet 3 (eLst (eNil)))) (sSeq (sPre [] (sFor (iSeq (eVar 2)) (.nm 4) (L_stores_along_1))) (sRetV 3))
def F_stores_along : Fn := mkFn 5 B_stores_along
def B_along : ES := sSeq (sPre [] (sEx (eFn F_demand_store (eCons (eVar 0) (eCons (eVar 1) (eCons (eFz (eOld (eCst (.str "store")))) (eNil))))))) (sSeq (sPre [] (sEx (eFn F_demand_deeds (eCons (eVar 0) (eCons (eVar 2) (eCons (eFz (eOld (eCst (.str "deeds")))) (eNil))))))) (sPre [] (sRet (eCall dTuple (eCons (eFz (eFn F_stores_along (eCons (eVar 0) (eCons (eVar 1) (eCons (eVar 2) (eNil)))))) (eNil))))))
def F_along : Fn := mkFn 3 B_along
def B_at_once : ES := sSeq (sPre [] (sEx (eFn F_demand_deeds (eCons (eVar 0) (eCons (eVar 1) (eCons (eFz (eOld (eCst (.str "deeds")))) (eNil))))))) (sSeq (sPre [] (sSet 2 (eOld (eFz (eFn F_last_ones (eCons (eFz (eFn F_in_line (eCons (eVar 1) (eNil)))) (eNil))))))) (sSeq (sPre [] (sIf (tbB (eFz (eOp dGt (eFz (eCall dLen (eCons (eVar 2) (eNil)))) (eFz (eOld (eCst (.int 12))))))) (sNone) (sNx))) (sRetV 2)))
def F_at_once : Fn := mkFn 3 B_at_once
def B_demand_order : ES := sSeq (sPre [] (sSet 1 (eOld (eFz (vAnd (tbB (eFz (eFn F_is_tuple (eCons (eVar 0) (eCons (eFz (eOld (eCst (.int 10)))) (eCons (eFz (eOld (eCst (.int 10)))) (eNil))))))) (eCall dAll (eCons (eFz (eComp [2] (iSeq (eVar 0)) (.nm 2) eYes (eFz (eFn F_is_in (eCons (eVar 2) (eCons (eFz (eOld (eCst (.int 0)))) (eCons (eFz (eOld (eCst (.int 9)))) (eNil)))))))) (eNil)))))))) (sPre [] (sEx (eFn F_demand (eCons (eFz (vAnd (tbB (eVar 1)) (eOp dEq (eFz (eCall dSorted (eCons (eVar 0) (eNil)))) (eFz (eRngL (eCons (eFz (eOld (eCst (.int 10)))) (eNil))))))) (eCons (eFz (eOld (eCst (.str "order")))) (eNil))))))
def F_demand_order : Fn := mkFn 3 B_demand_order
def B_term_by : ES := sPre [] (sRet (eIf (tbV (eFz (eUn (dIsi "str") (eVar 0)))) (eOld (eVar 0)) (eIxM (eVar 1) (eVar 0))))
def F_term_by : Fn := mkFn 2 B_term_by
def B_terms_by : ES := sPre [] (sRet (eCall dTuple (eCons (eFz (eComp [2] (iSeq (eVar 0)) (.nm 2) eYes (eFz (eFn F_term_by (eCons (eVar 2) (eCons (eVar 1) (eNil))))))) (eNil))))
def F_terms_by : Fn := mkFn 3 B_terms_by
def B_renamed_store : ES := sSeq (sPre [] (sEx (eFn F_demand_store (eCons (eVar 0) (eCons (eVar 1) (eCons (eFz (eOld (eCst (.str "store")))) (eNil))))))) (sSeq (sPre [] (sEx (eFn F_demand_order (eCons (eVar 2) (eNil))))) (sPre [] (sRet (eCall dTuple (eCons (eFz (eComp [4] (iSeq (eVar 1)) (.nm 4) eYes (eFz (eCall dTuple (eCons (eFz (eCall dSorted (eCons (eFz (eComp [3] (iSeq (eVar 4)) (.nm 3) eYes (eFz (eFn F_terms_by (eCons (eVar 3) (eCons (eVar 2) (eNil))))))) (eNil)))) (eNil)))))) (eNil))))))
def F_renamed_store : Fn := mkFn 5 B_renamed_store
end LW

set_option Elab.async false
set_option linter.all false
set_option maxRecDepth 100000
set_option maxHeartbeats 1000000
/-! P6m: deeds, plainly -/
namespace LW
open PySem PySem.Spec L2 R
abbrev Act := Tri Str Str Row
def Act.key (a : Act) : Str × Row := (a.b, a.c)
def doA (sch : Sch) (st : Sto) (a : Act) : Sto := if a.a = "put" then put sch st a.b a.c else take sch st a.b a.c
def runs (sch : Sch) (st : Sto) (as : List Act) : Sto := as.foldl (doA sch) st
structure ActOk (sch : Sch) (a : Act) : Prop where
  verb : a.a = "put" ∨ a.a = "take"
  tab : a.b ∈ names sch
  row : isRow sch a.b a.c = true
def ActsOk (sch : Sch) (as : List Act) : Prop := ∀ a ∈ as, ActOk sch a
/-- what the last action on a row does -/
def lastV : List Act → Str × Row → Option Str
  | [], _ => none
  | a :: as, p => match lastV as p with
    | some v => some v
    | none => if a.key = p then some a.a else none
/-- the last action on each row -/
def lasts : List Act → List Act
  | [] => []
  | a :: as => if a.key ∈ as.map Act.key then lasts as else a :: lasts as
section
variable {sch : Sch} {st st' : Sto} {t t' : Str} {r r' : Row} {as bs : List Act} {a : Act}
theorem runs_app : runs sch st (as ++ bs) = runs sch (runs sch st as) bs := List.foldl_append
theorem acts_app (h : ActsOk sch as) (h' : ActsOk sch bs) : ActsOk sch (as ++ bs) := fun a ha => (List.mem_append.mp ha).elim (h a) (h' a)
theorem doA_ok (s : StoOk sch st) (h : ActOk sch a) {m : Nat} (z : Sz sch m st) (hm : m + 1 ≤ 40) : StoOk sch (doA sch st a) ∧ Sz sch (m + 1) (doA sch st a) := by
  unfold doA
  by_cases e : a.a = "put"
  · rw [if_pos e]
    exact ⟨put_ok s h.tab h.row (.inr (by have := z _ h.tab; omega)), fun t ht => by
      have q := part_len_put (r := a.c) s h.tab ht
      have := z t ht
      split at q <;> omega⟩
  · rw [if_neg e]
    refine ⟨take_ok s h.tab, fun t ht => ?_⟩
    have q := len_takes (rs := [(a.b, a.c)]) s (fun p hp => by rw [List.mem_singleton.mp hp]; exact h.tab) z t ht
    exact Nat.le_succ_of_le q
theorem runs_ok : ∀ {as : List Act} {st : Sto} {m : Nat}, StoOk sch st → ActsOk sch as → Sz sch m st → m + as.length ≤ 40 → StoOk sch (runs sch st as) ∧ Sz sch (m + as.length) (runs sch st as)
  | [], _, _, s, _, z, _ => ⟨s, z⟩
  | a :: as, st, m, s, h, z, hm => by
    rw [List.length_cons] at hm ⊢
    obtain ⟨s1, z1⟩ := doA_ok s (h a (List.mem_cons_self ..)) z (by omega)
    obtain ⟨s2, z2⟩ := runs_ok (as := as) s1 (fun b hb => h b (List.mem_cons_of_mem _ hb)) z1 (by omega)
    exact ⟨s2, fun t ht => by have := z2 t ht; unfold runs at this ⊢; rw [List.foldl_cons]; omega⟩
theorem mem_doA (s : StoOk sch st) (h : ActOk sch a) (ht' : t' ∈ names sch) : r' ∈ part sch (doA sch st a) t' ↔ if a.key = (t', r') then a.a = "put" else r' ∈ part sch st t' := by
  unfold doA Act.key
  by_cases e : a.a = "put"
  · rw [if_pos e, mem_put s h.tab ht']
    by_cases k : (a.b, a.c) = (t', r')
    · rw [if_pos k]
      obtain ⟨k1, k2⟩ := Prod.mk.inj k
      exact ⟨fun _ => e, fun _ => .inl ⟨k1.symm, k2.symm⟩⟩
    · rw [if_neg k]
      exact ⟨fun q => q.elim (fun q => absurd (by rw [q.1, q.2]) k) id, .inr⟩
  · rw [if_neg e, mem_take s h.tab ht']
    by_cases k : (a.b, a.c) = (t', r')
    · rw [if_pos k]
      obtain ⟨k1, k2⟩ := Prod.mk.inj k
      exact ⟨fun q => absurd ⟨k1.symm, k2.symm⟩ q.1, fun q => absurd q e⟩
    · rw [if_neg k]
      exact ⟨fun q => q.2, fun q => ⟨fun q' => k (by rw [q'.1, q'.2]), q⟩⟩
theorem mem_runs : ∀ {as : List Act} {st : Sto} {m : Nat}, StoOk sch st → ActsOk sch as → Sz sch m st → m + as.length ≤ 40 → ∀ {t : Str} {r : Row}, t ∈ names sch →
    (r ∈ part sch (runs sch st as) t ↔ match lastV as (t, r) with
      | some v => v = "put"
      | none => r ∈ part sch st t)
  | [], _, _, _, _, _, _, t, r, _ => Iff.rfl
  | a :: as, st, m, s, h, z, hm, t, r, ht => by
    rw [List.length_cons] at hm
    have ha := h a (List.mem_cons_self ..)
    obtain ⟨s1, z1⟩ := doA_ok s ha z (by omega)
    have q := mem_runs (as := as) (t := t) (r := r) s1 (fun b hb => h b (List.mem_cons_of_mem _ hb)) z1 (by omega) ht
    have e : runs sch st (a :: as) = runs sch (doA sch st a) as := rfl
    rw [e, q, lastV]
    cases lastV as (t, r) with
    | some v => exact Iff.rfl
    | none =>
      dsimp only
      rw [mem_doA s ha ht]
      by_cases k : a.key = (t, r)
      · rw [if_pos k, if_pos k]
      · rw [if_neg k, if_neg k]
theorem lastV_none : ∀ {as : List Act} {p : Str × Row}, lastV as p = none ↔ p ∉ as.map Act.key
  | [], p => by simp [lastV]
  | a :: as, p => by
    have ih := lastV_none (as := as) (p := p)
    rw [lastV, List.map_cons, List.mem_cons]
    cases h : lastV as p with
    | some v =>
      rw [h] at ih
      have hp : p ∈ as.map Act.key := Classical.byContradiction fun hn => by cases ih.mpr hn
      simp [hp]
    | none =>
      rw [h] at ih
      have hp : p ∉ as.map Act.key := ih.mp rfl
      by_cases k : a.key = p
      · simp [k]
      · have k' : ¬ p = a.key := fun e => k e.symm
        simp [k, k', hp]
theorem mem_lasts_key {p : Str × Row} : ∀ {as : List Act}, p ∈ (lasts as).map Act.key ↔ p ∈ as.map Act.key
  | [] => Iff.rfl
  | a :: as => by
    rw [lasts]
    have ih := mem_lasts_key (p := p) (as := as)
    by_cases k : a.key ∈ as.map Act.key
    · rw [if_pos k, ih, List.map_cons, List.mem_cons]
      exact ⟨.inr, fun q => q.elim (fun q => q ▸ k) id⟩
    · rw [if_neg k, List.map_cons, List.map_cons, List.mem_cons, List.mem_cons, ih]
theorem lasts_sub : ∀ {as : List Act}, ∀ a ∈ lasts as, a ∈ as
  | [], _, h => h
  | b :: as, a, h => by
    rw [lasts] at h
    split at h
    · exact List.mem_cons_of_mem _ (lasts_sub a h)
    · rcases List.mem_cons.mp h with h | h
      · rw [h]; exact List.mem_cons_self ..
      · exact List.mem_cons_of_mem _ (lasts_sub a h)
theorem lasts_len : ∀ {as : List Act}, (lasts as).length ≤ as.length
  | [] => Nat.le_refl _
  | b :: as => by
    have := lasts_len (as := as)
    rw [lasts]
    split <;> simp <;> omega
theorem lasts_nd : ∀ {as : List Act}, ((lasts as).map Act.key).Nodup
  | [] => by simp [lasts]
  | a :: as => by
    rw [lasts]
    split
    · exact lasts_nd
    · rename_i k
      rw [List.map_cons, List.nodup_cons]
      exact ⟨fun h => k (mem_lasts_key.mp h), lasts_nd⟩
theorem lasts_id : ∀ {as : List Act}, (as.map Act.key).Nodup → lasts as = as
  | [], _ => rfl
  | a :: as, h => by
    rw [List.map_cons, List.nodup_cons] at h
    rw [lasts, if_neg h.1, lasts_id h.2]
theorem lastV_lasts {p : Str × Row} : ∀ {as : List Act}, lastV (lasts as) p = lastV as p
  | [] => rfl
  | a :: as => by
    have ih := lastV_lasts (p := p) (as := as)
    rw [lasts]
    by_cases k : a.key ∈ as.map Act.key
    · rw [if_pos k, ih, lastV]
      cases h : lastV as p with
      | some v => rfl
      | none =>
        by_cases k2 : a.key = p
        · exact absurd (k2 ▸ k) (lastV_none.mp h)
        · simp [k2]
    · rw [if_neg k, lastV, lastV, ih]
theorem acts_lasts (h : ActsOk sch as) : ActsOk sch (lasts as) := fun a ha => h a (lasts_sub a ha)
theorem runs_lasts (hs : SchOk sch) (s : StoOk sch st) (h : ActsOk sch as) {m : Nat} (z : Sz sch m st) (hm : m + as.length ≤ 40) : runs sch st (lasts as) = runs sch st as := by
  have hl : m + (lasts as).length ≤ 40 := by have := lasts_len (as := as); omega
  refine sto_ext hs.nd (runs_ok s (acts_lasts h) z hl).1 (runs_ok s h z hm).1 fun t ht r => ?_
  rw [mem_runs s (acts_lasts h) z hl ht, mem_runs s h z hm ht, lastV_lasts]
theorem lastV_mem : ∀ {as : List Act} {p : Str × Row} {v : Str}, (as.map Act.key).Nodup → (lastV as p = some v ↔ ⟨v, p.1, p.2⟩ ∈ as)
  | [], p, v, _ => by simp [lastV]
  | a :: as, p, v, h => by
    rw [List.map_cons, List.nodup_cons] at h
    have ih := lastV_mem (as := as) (p := p) (v := v) h.2
    rw [lastV, List.mem_cons]
    cases e : lastV as p with
    | some w =>
      rw [e] at ih
      dsimp only
      rw [ih]
      refine ⟨.inr, fun q => q.elim (fun q => ?_) id⟩
      have hp : p ∈ as.map Act.key := Classical.byContradiction fun hn => by rw [lastV_none.mpr hn] at e; cases e
      exact absurd (by rw [← q]; exact hp) h.1
    | none =>
      rw [e] at ih
      have hn : (⟨v, p.1, p.2⟩ : Act) ∉ as := fun q => by cases ih.mpr q
      dsimp only
      by_cases k : a.key = p
      · rw [if_pos k]
        constructor
        · intro q
          cases q
          exact .inl (by rw [← k]; rfl)
        · intro q
          rcases q with q | q
          · rw [← q]
          · exact absurd q hn
      · rw [if_neg k]
        constructor
        · intro q; cases q
        · intro q
          rcases q with q | q
          · exact absurd (by rw [← q]; rfl) k
          · exact absurd q hn
theorem len_sub {α : Type} [DecidableEq α] : ∀ {xs ys : List α}, xs.Nodup → (∀ x ∈ xs, x ∈ ys) → xs.length ≤ ys.length
  | [], _, _, _ => Nat.zero_le _
  | x :: xs, ys, h, hs => by
    rw [List.nodup_cons] at h
    have hx := hs x (List.mem_cons_self ..)
    have z := len_sub (xs := xs) (ys := ys.erase x) h.2 fun y hy => (List.mem_erase_of_ne (fun e : y = x => h.1 (e ▸ hy))).mpr (hs y (List.mem_cons_of_mem _ hy))
    have l := List.length_erase_of_mem hx
    have := List.length_pos_of_mem hx
    rw [List.length_cons]
    omega
/-- the actions that lead from st' back to st -/
def tk (p : Str × Row) : Act := ⟨"take", p.1, p.2⟩
def pt (p : Str × Row) : Act := ⟨"put", p.1, p.2⟩
def backA (sch : Sch) (st st' : Sto) : List Act := (minus sch st' st).map tk ++ (minus sch st st').map pt
theorem backA_key : (backA sch st st').map Act.key = minus sch st' st ++ minus sch st st' := by
  unfold backA
  rw [List.map_append, List.map_map, List.map_map]
  have e1 : Act.key ∘ tk = id := rfl
  have e2 : Act.key ∘ pt = id := rfl
  rw [e1, e2, List.map_id, List.map_id]
theorem minus_nd (h : SchOk sch) (s : StoOk sch st) : (minus sch st st').Nodup := (nodup_listed h s).sublist List.filter_sublist
theorem backA_nd (h : SchOk sch) (s : StoOk sch st) (s' : StoOk sch st') : ((backA sch st st').map Act.key).Nodup := by
  rw [backA_key, List.nodup_append]
  exact ⟨minus_nd h s', minus_nd h s, fun p hp q hq e => minus_disj h s' s p hp (e ▸ hq)⟩
theorem backA_ok (h : SchOk sch) (s : StoOk sch st) (s' : StoOk sch st') : ActsOk sch (backA sch st st') := fun a ha => by
  unfold backA at ha
  rcases List.mem_append.mp ha with ha | ha
  · obtain ⟨p, hp, rfl⟩ := List.mem_map.mp ha
    have f := (fits_minus h s').row p hp
    exact ⟨.inr rfl, f.1, f.2⟩
  · obtain ⟨p, hp, rfl⟩ := List.mem_map.mp ha
    have f := (fits_minus h s).row p hp
    exact ⟨.inl rfl, f.1, f.2⟩
theorem backA_len (h : SchOk sch) (s : StoOk sch st) (ha : ActsOk sch as) {m : Nat} (z : Sz sch m st) (hm : m + as.length ≤ 40) : (backA sch st (runs sch st as)).length ≤ as.length := by
  obtain ⟨s', _⟩ := runs_ok s ha z hm
  have q := len_sub (xs := (backA sch st (runs sch st as)).map Act.key) (ys := as.map Act.key) (backA_nd h s s') fun p hp => by
    obtain ⟨t, r⟩ := p
    rw [backA_key, List.mem_append, mem_minus h s', mem_minus h s] at hp
    refine Classical.byContradiction fun hn => ?_
    rcases hp with ⟨ht, h1, h2⟩ | ⟨ht, h1, h2⟩
    · have q := mem_runs (r := r) s ha z hm ht
      rw [lastV_none.mpr hn] at q
      exact h2 (q.mp h1)
    · have q := mem_runs (r := r) s ha z hm ht
      rw [lastV_none.mpr hn] at q
      exact h2 (q.mpr h1)
  rw [List.length_map, List.length_map] at q
  exact q
theorem runs_back (h : SchOk sch) (s : StoOk sch st) (s' : StoOk sch st') {m : Nat} (z : Sz sch m st') (hm : m + (backA sch st st').length ≤ 40) : runs sch st' (backA sch st st') = st := by
  have ok := backA_ok h s s'
  have nd := backA_nd h s s'
  refine sto_ext h.nd (runs_ok s' ok z hm).1 s fun t ht r => ?_
  rw [mem_runs s' ok z hm ht]
  cases e : lastV (backA sch st st') (t, r) with
  | none =>
    have hn := lastV_none.mp e
    rw [backA_key, List.mem_append, mem_minus h s', mem_minus h s] at hn
    dsimp only
    constructor
    · intro q; exact Classical.byContradiction fun w => hn (.inl ⟨ht, q, w⟩)
    · intro q; exact Classical.byContradiction fun w => hn (.inr ⟨ht, q, w⟩)
  | some v =>
    have hv := (lastV_mem nd).mp e
    dsimp only at hv ⊢
    unfold backA at hv
    rcases List.mem_append.mp hv with hv | hv
    · obtain ⟨p, hp, q⟩ := List.mem_map.mp hv
      obtain ⟨p1, p2⟩ := p
      cases q
      have w := (mem_minus h s').mp hp
      exact ⟨fun q => absurd q (by decide), fun q => absurd q w.2.2⟩
    · obtain ⟨p, hp, q⟩ := List.mem_map.mp hv
      obtain ⟨p1, p2⟩ := p
      cases q
      have w := (mem_minus h s).mp hp
      exact ⟨fun _ => w.2.1, fun _ => rfl⟩
theorem minus_nil (h : SchOk sch) (s : StoOk sch st) (s' : StoOk sch st') : (minus sch st' st = [] ∧ minus sch st st' = []) ↔ st = st' := by
  constructor
  · rintro ⟨h1, h2⟩
    refine sto_ext h.nd s s' fun t ht r => ⟨fun q => Classical.byContradiction fun w => ?_, fun q => Classical.byContradiction fun w => ?_⟩
    · have := (mem_minus h s).mpr ⟨ht, q, w⟩
      rw [h2] at this
      cases this
    · have := (mem_minus h s').mpr ⟨ht, q, w⟩
      rw [h1] at this
      cases this
  · rintro rfl
    have e : minus sch st st = [] := List.eq_nil_iff_forall_not_mem.mpr fun ⟨t, r⟩ hp => by
      have w := (mem_minus h s).mp hp
      exact w.2.2 w.2.1
    exact ⟨e, e⟩
/-! ### renamed cells -/
structure OrdOk (o : List Int) : Prop where
  len : o.length = 10
  rng : ∀ c ∈ o, 0 ≤ c ∧ c ≤ 9
  nd : o.Nodup
def mvC (o : List Int) (c : Int) : Int := o.getD c.toNat 0
def mvR (o : List Int) (r : Row) : Row := r.map (mvC o)
def mvS (o : List Int) (st : Sto) : Sto := st.map fun rs => sortR (rs.map (mvR o))
def mvA (o : List Int) (a : Act) : Act := ⟨a.a, a.b, mvR o a.c⟩
variable {o : List Int}
theorem mvC_rng (h : OrdOk o) {c : Int} (hc : 0 ≤ c ∧ c ≤ 9) : 0 ≤ mvC o c ∧ mvC o c ≤ 9 := by
  have hl := h.len
  have : c.toNat < o.length := by omega
  unfold mvC
  rw [List.getD_eq_getElem?_getD, List.getElem?_eq_getElem this]
  exact h.rng _ (List.getElem_mem this)
theorem mvC_inj (h : OrdOk o) {c d : Int} (hc : 0 ≤ c ∧ c ≤ 9) (hd : 0 ≤ d ∧ d ≤ 9) (e : mvC o c = mvC o d) : c = d := by
  have hl := h.len
  have l1 : c.toNat < o.length := by omega
  have l2 : d.toNat < o.length := by omega
  unfold mvC at e
  rw [List.getD_eq_getElem?_getD, List.getElem?_eq_getElem l1, List.getD_eq_getElem?_getD, List.getElem?_eq_getElem l2] at e
  have e' : o[c.toNat] = o[d.toNat] := e
  have w := List.pairwise_iff_getElem.mp h.nd
  rcases Nat.lt_trichotomy c.toNat d.toNat with q | q | q
  · exact absurd e' (w _ _ l1 l2 q)
  · omega
  · exact absurd e'.symm (w _ _ l2 l1 q)
theorem isRow_iff : isRow sch t r = true ↔ r.length = width sch t ∧ ∀ c ∈ r, 0 ≤ c ∧ c ≤ 9 := by
  unfold isRow
  rw [Bool.and_eq_true, decide_eq_true_eq, List.all_eq_true]
  simp
theorem mvR_ok (h : OrdOk o) (hr : isRow sch t r = true) : isRow sch t (mvR o r) = true := by
  rw [isRow_iff] at hr ⊢
  refine ⟨by simp [mvR, hr.1], fun c hc => ?_⟩
  obtain ⟨d, hd, rfl⟩ := List.mem_map.mp hc
  exact mvC_rng h (hr.2 d hd)
theorem map_inj_on {α β : Type} {f : α → β} {P : α → Prop} (hf : ∀ a b, P a → P b → f a = f b → a = b) : ∀ {xs ys : List α}, (∀ a ∈ xs, P a) → (∀ a ∈ ys, P a) → xs.map f = ys.map f → xs = ys
  | [], [], _, _, _ => rfl
  | [], _ :: _, _, _, e => by simp at e
  | _ :: _, [], _, _, e => by simp at e
  | x :: xs, y :: ys, h1, h2, e => by
    rw [List.map_cons, List.map_cons] at e
    obtain ⟨a, b⟩ := List.cons.inj e
    rw [hf _ _ (h1 x (List.mem_cons_self ..)) (h2 y (List.mem_cons_self ..)) a, map_inj_on hf (fun a h => h1 a (List.mem_cons_of_mem _ h)) (fun a h => h2 a (List.mem_cons_of_mem _ h)) b]
theorem mvR_inj (h : OrdOk o) {t' : Str} (hr : isRow sch t r = true) (hr' : isRow sch t' r' = true) (e : mvR o r = mvR o r') : r = r' :=
  map_inj_on (P := fun c => 0 ≤ c ∧ c ≤ 9) (fun a b ha hb q => mvC_inj h ha hb q) (isRow_iff.mp hr).2 (isRow_iff.mp hr').2 e
theorem part_mvS (hl : st.length = sch.length) (ht : t ∈ names sch) : part sch (mvS o st) t = sortR ((part sch st t).map (mvR o)) := by
  have := place_lt ht
  unfold part mvS
  rw [List.getD_eq_getElem?_getD, List.getElem?_map, List.getElem?_eq_getElem (by omega), List.getD_eq_getElem?_getD, List.getElem?_eq_getElem (by omega)]
  rfl
theorem nd_map_on {α β : Type} {f : α → β} {P : α → Prop} (hf : ∀ a b, P a → P b → f a = f b → a = b) : ∀ {xs : List α}, (∀ a ∈ xs, P a) → xs.Nodup → (xs.map f).Nodup
  | [], _, _ => by simp
  | x :: xs, h, hn => by
    rw [List.nodup_cons] at hn
    rw [List.map_cons, List.nodup_cons]
    refine ⟨fun hm => ?_, nd_map_on hf (fun a ha => h a (List.mem_cons_of_mem _ ha)) hn.2⟩
    obtain ⟨y, hy, e⟩ := List.mem_map.mp hm
    exact hn.1 (hf _ _ (h y (List.mem_cons_of_mem _ hy)) (h x (List.mem_cons_self ..)) e ▸ hy)
theorem mvS_ok (h : OrdOk o) (s : StoOk sch st) {m : Nat} (z : Sz sch m st) : StoOk sch (mvS o st) ∧ Sz sch m (mvS o st) := by
  refine ⟨⟨by simp [mvS, s.len], fun t ht => ?_⟩, fun t ht => ?_⟩
  · obtain ⟨a, b, c⟩ := s.ok t ht
    rw [part_mvS s.len ht]
    refine ⟨by rw [len_sortR, List.length_map]; exact a, fun r hr => ?_, sortR_pw (nd_map_on (P := fun r => isRow sch t r = true) (fun x y hx hy e => mvR_inj h hx hy e) b (pw_nodup c))⟩
    obtain ⟨x, hx, rfl⟩ := List.mem_map.mp (mem_sortR.mp hr)
    exact mvR_ok h (b x hx)
  · rw [part_mvS s.len ht, len_sortR, List.length_map]
    exact z t ht
theorem mem_mvS (h : OrdOk o) (s : StoOk sch st) (ht : t ∈ names sch) (hr : isRow sch t r = true) : mvR o r ∈ part sch (mvS o st) t ↔ r ∈ part sch st t := by
  rw [part_mvS s.len ht, mem_sortR, List.mem_map]
  exact ⟨fun ⟨x, hx, e⟩ => mvR_inj h ((s.ok t ht).2.1 x hx) hr e ▸ hx, fun hx => ⟨r, hx, rfl⟩⟩
theorem mvS_mem (s : StoOk sch st) (ht : t ∈ names sch) (hr : r ∈ part sch (mvS o st) t) : ∃ x ∈ part sch st t, mvR o x = r := by
  rw [part_mvS s.len ht, mem_sortR, List.mem_map] at hr
  exact hr
theorem mvA_ok (h : OrdOk o) (ha : ActOk sch a) : ActOk sch (mvA o a) := ⟨ha.verb, ha.tab, mvR_ok h ha.row⟩
theorem lastV_mv (h : OrdOk o) (ha : ActsOk sch as) (hr : isRow sch t r = true) : lastV (as.map (mvA o)) (t, mvR o r) = lastV as (t, r) := by
  induction as with
  | nil => rfl
  | cons a as ih =>
    rw [List.map_cons, lastV, lastV, ih fun b hb => ha b (List.mem_cons_of_mem _ hb)]
    have hk : ((mvA o a).key = (t, mvR o r)) ↔ a.key = (t, r) := by
      unfold Act.key mvA
      rw [Prod.mk.injEq, Prod.mk.injEq]
      exact ⟨fun ⟨x, y⟩ => ⟨x, mvR_inj h (ha a (List.mem_cons_self ..)).row hr y⟩, fun ⟨x, y⟩ => ⟨x, by rw [← y]⟩⟩
    by_cases k : a.key = (t, r)
    · rw [if_pos k, if_pos (hk.mpr k)]
      rfl
    · rw [if_neg k, if_neg (fun q => k (hk.mp q))]
theorem lastV_row (ha : ActsOk sch as) {v : Str} : lastV as (t, r) = some v → ∃ a ∈ as, a.b = t ∧ a.c = r := fun e => by
  have hp : (t, r) ∈ as.map Act.key := Classical.byContradiction fun hn => by rw [lastV_none.mpr hn] at e; cases e
  obtain ⟨a, h, q⟩ := List.mem_map.mp hp
  obtain ⟨q1, q2⟩ := Prod.mk.inj q
  exact ⟨a, h, q1, q2⟩
theorem runs_mv (hs : SchOk sch) (h : OrdOk o) (s : StoOk sch st) (ha : ActsOk sch as) {m : Nat} (z : Sz sch m st) (hm : m + as.length ≤ 40) : runs sch (mvS o st) (as.map (mvA o)) = mvS o (runs sch st as) := by
  obtain ⟨s1, z1⟩ := mvS_ok h s z
  obtain ⟨s2, z2⟩ := runs_ok s ha z hm
  have ha' : ActsOk sch (as.map (mvA o)) := fun b hb => by
    obtain ⟨a, h1, rfl⟩ := List.mem_map.mp hb
    exact mvA_ok h (ha a h1)
  have hm' : m + (as.map (mvA o)).length ≤ 40 := by rw [List.length_map]; exact hm
  obtain ⟨s3, z3⟩ := mvS_ok h s2 z2
  refine sto_ext hs.nd (runs_ok s1 ha' z1 hm').1 s3 fun t ht r => ?_
  have key : ∀ x, isRow sch t x = true → (mvR o x ∈ part sch (runs sch (mvS o st) (as.map (mvA o))) t ↔ mvR o x ∈ part sch (mvS o (runs sch st as)) t) := fun x hx => by
    rw [mem_mvS h s2 ht hx, mem_runs s1 ha' z1 hm' ht, mem_runs s ha z hm ht, lastV_mv h ha hx]
    cases lastV as (t, x) with
    | some v => exact Iff.rfl
    | none => exact mem_mvS h s ht hx
  constructor
  · intro q
    have w := (mem_runs s1 ha' z1 hm' ht).mp q
    cases e : lastV (as.map (mvA o)) (t, r) with
    | some v =>
      obtain ⟨b, hb, e1, e2⟩ := lastV_row ha' e
      obtain ⟨a, h1, rfl⟩ := List.mem_map.mp hb
      have hx : isRow sch t a.c = true := by
        have z := (ha a h1).row
        have e1' : a.b = t := e1
        rw [e1'] at z
        exact z
      have e2' : mvR o a.c = r := e2
      rw [← e2'] at q ⊢
      exact (key _ hx).mp q
    | none =>
      rw [e] at w
      obtain ⟨x, hx, rfl⟩ := mvS_mem s ht w
      exact (key x ((s.ok t ht).2.1 x hx)).mp q
  · intro q
    obtain ⟨x, hx, rfl⟩ := mvS_mem s2 ht q
    exact (key x ((s2.ok t ht).2.1 x hx)).mpr q
end
end LW

set_option Elab.async false
set_option linter.all false
set_option maxRecDepth 100000
set_option maxHeartbeats 1000000
/-! P6: deeds evaluated -/
namespace LW
open PySem PySem.Spec L2 R
section
variable {M : List MO} {sch : Sch} {st st' : Sto} {t : Str} {r : Row} {as bs : List Act} {a : Act}
@[simp] theorem e_is_word_i {v : Int} : F_is_word [.int v] M = some ((.bl false, false), M) := by
  simp [F_is_word, v_mkFn, B_is_word]
@[simp] theorem e_is_letter_i {v : Int} : F_is_letter [.int v] M = some ((.bl false, false), M) := by
  simp [F_is_letter, v_mkFn, B_is_letter]
@[simp] theorem e_is_term_i {v : Int} : F_is_term [.int v] M = some ((.bl (decide (0 ≤ v ∧ v ≤ 9)), false), M) := by
  by_cases h : 0 ≤ v ∧ v ≤ 9
  · simp [F_is_term, v_mkFn, B_is_term, h]
  · simp [F_is_term, v_mkFn, B_is_term, h]
theorem verb_in {v : Str} (h : v = "put" ∨ v = "take") : v ∈ (["put", "take"] : List Str) := by
  rcases h with rfl | rfl <;> simp
theorem e_is_action (h : SchOk sch) (ha : ActOk sch a) : F_is_action [Enc.e sch, Enc.e a] M = some ((.bl true, false), M) := by
  obtain ⟨ha1, ha2⟩ := isRow_iff.mp ha.row
  have w := (h.w ha.tab).2
  have hl := lim40 (n := width sch a.b) (by omega)
  have e1 : D.tup [.str "put", .str "take"] = Enc.e (["put", "take"] : List Str) := rfl
  have hv := verb_in ha.verb
  have h2 : (2 : Nat) ≤ LIM := lim40 (by decide)
  have w3 : (3 : Int) ≤ 3 := by decide
  have t3 : F_is_tuple [Enc.e a, .int 3, .int 3] M = some ((.bl true, false), M) := by simp [F_is_tuple, v_mkFn, B_is_tuple]
  have hb : (a.c.all fun c => decide (0 ≤ c ∧ c ≤ 9)) = true := List.all_eq_true.mpr fun c hc => by simpa using ha2 c hc
  simp only [Bool.decide_and] at hb
  simp [F_is_action, v_mkFn, B_is_action, t3, e1, hv, h2, h.l4, h.nd, ha.tab, ha1, compL_map, stepC, kC1, hl, hb]
theorem e_are_actions (h : SchOk sch) (ha : ActsOk sch as) (hl : as.length ≤ 12) : F_are_actions [Enc.e sch, Enc.e as] M = some ((.bl true, false), M) := by
  have h1 := lim40 (n := as.length) (by omega)
  have hl' : (as.length : Int) ≤ 12 := by omega
  have k1 : ∀ a ∈ as, ∀ M, F_is_action [Enc.e sch, Enc.e a] M = some ((.bl true, false), M) := fun a h' M => e_is_action h (ha a h')
  have k2 : ∀ a ∈ as, ∀ M, F_is_row_of [Enc.e sch, .str a.b, Enc.e a.c] M = some ((.bl true, false), M) := fun a h' M => by
    have q := ha a h'
    have := isRow_len q.row
    have := (h.w q.tab).2
    rw [e_is_row_of h.nd q.tab (by omega), q.row]
  simp +contextual [F_are_actions, v_mkFn, B_are_actions, hl', compL_map, stepC, kC1, h1, k1, k2]
theorem e_demand_actions (h : SchOk sch) (ha : ActsOk sch as) (hl : as.length ≤ 12) {n : Str} : F_demand_actions [Enc.e sch, Enc.e as, .str n] M = some ((.non, false), M) := by
  simp [F_demand_actions, v_mkFn, B_demand_actions, h, e_are_actions h ha hl]
theorem e_doA (h : SchOk sch) (s : StoOk sch st) (ha : ActOk sch a) {m : Nat} (z : Sz sch m st) (hm : m + 1 ≤ 40) :
    (if a.a = "put" then F_put [Enc.e sch, Enc.e st, .str a.b, Enc.e a.c] M else F_take [Enc.e sch, Enc.e st, .str a.b, Enc.e a.c] M) = some ((Enc.e (doA sch st a), false), M) := by
  unfold doA
  by_cases e : a.a = "put"
  · rw [if_pos e, if_pos e]
    exact e_put h s ha.tab (isRow_ne h ha.tab ha.row) (.inr (by have := z _ ha.tab; omega))
  · rw [if_neg e, if_neg e]
    exact e_take h s ha.tab
theorem e_run (h : SchOk sch) (s : StoOk sch st) (ha : ActsOk sch as) {m : Nat} (z : Sz sch m st) (hm : m + as.length ≤ 40) : F_run [Enc.e sch, Enc.e st, Enc.e as] M = some ((Enc.e (runs sch st as), false), M) := by
  have L : forL [.fz (Enc.e sch), .fz (Enc.e st), .fz (Enc.e as), .no, .no, .no] (.tp [.nm 3, .nm 4, .nm 5]) L_run_1 (as.map Enc.e) [.fz (Enc.e sch), .fz (Enc.e st), .fz (Enc.e as), .no, .no, .no] M
      = some (.nx, [.fz (Enc.e sch), .fz (Enc.e (runs sch st as)), .fz (Enc.e as), .no, .no, .no], M) := by
    refine forL_pre (fun pre : List Act => [.fz (Enc.e sch), .fz (Enc.e (runs sch st pre)), .fz (Enc.e as), .no, .no, .no]) rfl fun pre a post e => ?_
    have hp : m + pre.length + 1 ≤ 40 := by
      have w := congrArg List.length e
      rw [List.length_append, List.length_cons] at w
      omega
    have ha1 : ActsOk sch pre := fun b hb => ha b (by rw [e]; exact List.mem_append_left _ hb)
    obtain ⟨s1, z1⟩ := runs_ok s ha1 z (by omega)
    have q := e_doA (M := M) h s1 (ha a (by rw [e]; simp)) z1 hp
    have er : runs sch st (pre ++ [a]) = doA sch (runs sch st pre) a := runs_app
    rw [er]
    generalize runs sch st pre = x at q
    by_cases ev : a.a = "put"
    · rw [if_pos ev] at q
      simp [stepL, L_run_1, ev, q]
    · rw [if_neg ev] at q
      simp [stepL, L_run_1, ev, q]
  simp [F_run, v_mkFn, B_run, L]
theorem e_done (h : SchOk sch) (s : StoOk sch st) (ha : ActsOk sch as) (hl : as.length ≤ 12) {m : Nat} (z : Sz sch m st) (hm : m + as.length ≤ 40) : F_done [Enc.e sch, Enc.e st, Enc.e as] M = some ((Enc.e (runs sch st as), false), M) := by
  simp [F_done, v_mkFn, B_done, h, s, e_demand_actions h ha hl, e_run h s ha z hm]
def nets (sch : Sch) (st : Sto) (as : List Act) : List (Str × Row) × List (Str × Row) := (minus sch (runs sch st as) st, minus sch st (runs sch st as))
theorem e_net (h : SchOk sch) (s : StoOk sch st) (ha : ActsOk sch as) (hl : as.length ≤ 12) {m : Nat} (z : Sz sch m st) (hm : m + as.length ≤ 40) : F_net [Enc.e sch, Enc.e st, Enc.e as] M = some ((Enc.e (nets sch st as), false), M) := by
  have s' := (runs_ok s ha z hm).1
  have h2 : (2 : Nat) ≤ LIM := lim40 (by decide)
  simp [F_net, v_mkFn, B_net, h, s, e_demand_actions h ha hl, e_run h s ha z hm, s', h2]
  rfl
theorem e_is_idle (h : SchOk sch) (s : StoOk sch st) (ha : ActsOk sch as) (hl : as.length ≤ 12) {m : Nat} (z : Sz sch m st) (hm : m + as.length ≤ 40) : F_is_idle [Enc.e sch, Enc.e st, Enc.e as] M = some ((.bl (decide (st = runs sch st as)), false), M) := by
  have s' := (runs_ok s ha z hm).1
  have h2 : (2 : Nat) ≤ LIM := lim40 (by decide)
  have h0 : (0 : Nat) ≤ LIM := lim40 (by decide)
  have e2 : D.tup [.tup [], .tup []] = Enc.e (([], []) : List (Str × Row) × List (Str × Row)) := rfl
  have ee : decide (nets sch st as = ([], [])) = decide (st = runs sch st as) := by
    rw [decide_eq_decide, ← minus_nil h s s']
    unfold nets
    rw [Prod.mk.injEq]
  simp [F_is_idle, v_mkFn, B_is_idle, e_net h s ha hl z hm, h2, h0, e2, ee]
theorem e_taking_back (h : SchOk sch) (s : StoOk sch st) (ha : ActsOk sch as) (hl : as.length ≤ 12) {m : Nat} (z : Sz sch m st) (hm : m + as.length ≤ 40) : F_taking_back [Enc.e sch, Enc.e st, Enc.e as] M = some ((Enc.e (backA sch st (runs sch st as)), false), M) := by
  have s' := (runs_ok s ha z hm).1
  have q := backA_len h s ha z hm
  have q2 : (backA sch st (runs sch st as)).length = (minus sch (runs sch st as) st).length + (minus sch st (runs sch st as)).length := by simp [backA]
  have hn := e_net (M := M) h s ha hl z hm
  unfold nets at hn
  have l1 := lim40 (n := (minus sch (runs sch st as) st).length) (by omega)
  have l2 := lim40 (n := (minus sch st (runs sch st as)).length) (by omega)
  have l3 : (3 : Nat) ≤ LIM := lim40 (by decide)
  have ek : ∀ p : Str × Row, D.tup [.str "take", .str p.1, Enc.e p.2] = Enc.e (tk p) := fun _ => rfl
  have ep : ∀ p : Str × Row, D.tup [.str "put", .str p.1, Enc.e p.2] = Enc.e (pt p) := fun _ => rfl
  have hadd := L_add (xs := (minus sch (runs sch st as) st).map tk) (ys := (minus sch st (runs sch st as)).map pt) (lim40 (by rw [List.length_map, List.length_map]; omega))
  have e1 : ∀ xs : List (Str × Row), D.lst (xs.map fun p => Enc.e (tk p)) = eL (xs.map tk) := fun xs => by simp [eL]
  have e2 : ∀ xs : List (Str × Row), D.lst (xs.map fun p => Enc.e (pt p)) = eL (xs.map pt) := fun xs => by simp [eL]
  unfold backA at q q2 ⊢
  generalize minus sch (runs sch st as) st = xs at hn q q2 l1 l2 hadd
  generalize minus sch st (runs sch st as) = ys at hn q q2 l1 l2 hadd
  have hb : ¬ ((12 : Int) < (xs.map tk ++ ys.map pt).length) := by
    have : (xs.map tk ++ ys.map pt).length ≤ 12 := by omega
    omega
  have l4 := lim40 (n := (xs.map tk ++ ys.map pt).length) (by omega)
  simp [F_taking_back, v_mkFn, B_taking_back, hn, compL_map, stepC, kC1, l1, l2, l3, ek, ep, e1, e2]
  simp only [hadd]
  generalize xs.map tk ++ ys.map pt = zs at hb l4
  simp [hb, l4]
theorem filt_last (key : Act → Str × Row) (hk : key = Act.key) : ∀ {as pre : List Act}, ((as.zipIdx pre.length).filter fun p => !decide (key p.1 ∈ ((pre ++ as).map key).drop (p.2 + 1))).map (·.1) = lasts as
  | [], pre => rfl
  | a :: as, pre => by
    subst hk
    have ih := filt_last Act.key rfl (as := as) (pre := pre ++ [a])
    rw [List.length_append, List.length_singleton, List.append_assoc, List.singleton_append] at ih
    rw [List.zipIdx_cons, List.filter_cons, lasts]
    have e : ((pre ++ a :: as).map Act.key).drop (pre.length + 1) = as.map Act.key := by
      rw [List.map_append, List.map_cons, List.drop_append, List.length_map]
      have : List.drop (pre.length + 1) (pre.map Act.key) = [] := List.drop_eq_nil_of_le (by simp)
      rw [this, show pre.length + 1 - pre.length = 1 by omega]
      rfl
    dsimp only
    rw [e]
    by_cases k : a.key ∈ as.map Act.key
    · rw [if_pos k]
      simp only [k, decide_true, Bool.not_true, Bool.false_eq_true, if_false]
      exact ih
    · rw [if_neg k]
      simp only [k, decide_false, Bool.not_false, if_true, List.map_cons]
      rw [ih]
theorem filt_last0 : ((as.zipIdx).filter fun p => !decide (p.1.key ∈ (as.map Act.key).drop (p.2 + 1))).map (·.1) = lasts as := filt_last Act.key rfl (pre := [])
theorem cut_drop1 {α : Type} {xs : List α} {i : Nat} : cutD xs (some ((i : Int) + 1)) none = xs.drop (i + 1) := by
  have z := cut_drop xs (i + 1)
  rw [← z]
  rfl
theorem T_sl1 {α β γ : Type} [Enc α] [Enc β] [Enc γ] {p : Tri α β γ} : dSl (some 1) none (Enc.e p) = some (Enc.e (p.b, p.c), false) := by
  rfl
theorem filt_e (as : List Act) : (as.zipIdx.filter fun p => !decide ((p.1.b, p.1.c) ∈ (as.map fun a => (a.b, a.c)).drop (p.2 + 1))).map (fun p => Enc.e p.1) = (lasts as).map Enc.e := by
  have z := congrArg (List.map Enc.e) (filt_last0 (as := as))
  rw [List.map_map] at z
  exact z
theorem e_settled (h : SchOk sch) (ha : ActsOk sch as) (hl : as.length ≤ 12) : F_settled [Enc.e sch, Enc.e as] M = some ((Enc.e (lasts as), false), M) := by
  have h1 := lim40 (n := as.length) (by omega)
  have e1 : D.lst (as.map fun a => Enc.e (a.b, a.c)) = eL (as.map fun a => (a.b, a.c)) := by simp [eL]
  have hd : Enc.dp (Str × Row) ≤ 60 := by decide
  have h2 := lim40 (n := (lasts as).length) (by have := lasts_len (as := as); omega)
  have z := filt_e as
  generalize hrows : (as.map fun a => (a.b, a.c)) = rows at e1 z
  have hrl : rows.length ≤ LIM := by rw [← hrows, List.length_map]; exact h1
  have z2 := congrArg List.length z
  rw [List.length_map, List.length_map] at z2
  simp [F_settled, v_mkFn, B_settled, e_demand_actions h ha hl, compL_map, stepC, kC1, h1, T_sl1, e1, enumD_map', cut_drop1, hd, z, z2, h2]
  rfl
theorem e_last_ones (hl : as.length ≤ 1000) : F_last_ones [Enc.e as] M = some ((Enc.e (lasts as), false), M) := by
  have h1 := lim40 (n := as.length) (by omega)
  have e1 : D.lst (as.map fun a => Enc.e (a.b, a.c)) = eL (as.map fun a => (a.b, a.c)) := by simp [eL]
  have hd : Enc.dp (Str × Row) ≤ 60 := by decide
  have h2 := lim40 (n := (lasts as).length) (by have := lasts_len (as := as); omega)
  have z := filt_e as
  generalize hrows : (as.map fun a => (a.b, a.c)) = rows at e1 z
  have hrl : rows.length ≤ LIM := by rw [← hrows, List.length_map]; exact h1
  have z2 := congrArg List.length z
  rw [List.length_map, List.length_map] at z2
  simp [F_last_ones, v_mkFn, B_last_ones, compL_map, stepC, kC1, h1, T_sl1, e1, enumD_map', cut_drop1, hd, z, z2, h2]
  rfl
end
end LW

set_option Elab.async false
set_option linter.all false
set_option maxRecDepth 100000
set_option maxHeartbeats 1000000
/-! P6b: deeds one behind the other, renamed stores, evaluated -/
namespace LW
open PySem PySem.Spec L2 R
section
variable {M : List MO} {sch : Sch} {st st' : Sto} {t : Str} {r : Row} {as bs : List Act} {a : Act} {ds : List (List Act)}
structure DeedsOk (sch : Sch) (ds : List (List Act)) : Prop where
  len : ds.length ≤ 6
  each : ∀ d ∈ ds, ActsOk sch d ∧ d.length ≤ 4
theorem e_are_deeds (h : SchOk sch) (hd : DeedsOk sch ds) : F_are_deeds [Enc.e sch, Enc.e ds] M = some ((.bl true, false), M) := by
  have := hd.len
  have h1 := lim40 (n := ds.length) (by omega)
  have hl' : (ds.length : Int) ≤ 6 := by omega
  have k1 : ∀ a ∈ ds, ∀ M, F_are_actions [Enc.e sch, Enc.e a] M = some ((.bl true, false), M) := fun a h' M => e_are_actions h (hd.each a h').1 (by have := (hd.each a h').2; omega)
  have k2 : ∀ a ∈ ds, (List.length a : Int) ≤ 4 := fun a h' => by have := (hd.each a h').2; omega
  simp +contextual [F_are_deeds, v_mkFn, B_are_deeds, hl', compL_map, stepC, kC1, h1, k1, k2]
theorem e_demand_deeds (h : SchOk sch) (hd : DeedsOk sch ds) {n : Str} : F_demand_deeds [Enc.e sch, Enc.e ds, .str n] M = some ((.non, false), M) := by
  simp [F_demand_deeds, v_mkFn, B_demand_deeds, h, e_are_deeds h hd]
theorem flat_len {d : Nat} : ∀ {ds : List (List Act)}, (∀ x ∈ ds, x.length ≤ d) → ds.flatten.length ≤ ds.length * d
  | [], _ => by simp
  | x :: ds, h => by
    have := flat_len fun x hx => h x (List.mem_cons_of_mem _ hx)
    have := h x (List.mem_cons_self ..)
    rw [List.flatten_cons, List.length_append, List.length_cons, Nat.succ_mul]
    omega
theorem e_in_line (hl : ds.flatten.length ≤ 1000) : F_in_line [Enc.e ds] M = some ((Enc.e ds.flatten, false), M) := by
  have e0 : D.tup [] = Enc.e ([] : List Act) := rfl
  have h0 : (0 : Nat) ≤ LIM := lim40 (by decide)
  have L : forL [.fz (Enc.e ds), .fz (Enc.e ([] : List Act)), .no] (.nm 2) L_in_line_1 (ds.map Enc.e) [.fz (Enc.e ds), .fz (Enc.e ([] : List Act)), .no] M
      = some (.nx, [.fz (Enc.e ds), .fz (Enc.e ds.flatten), .no], M) := by
    refine forL_pre (fun pre : List (List Act) => [.fz (Enc.e ds), .fz (Enc.e pre.flatten), .no]) rfl fun pre a post e => ?_
    have hp : pre.flatten.length + a.length ≤ 1000 := by
      have w := congrArg (fun l => l.flatten.length) e
      rw [List.flatten_append, List.flatten_cons, List.length_append, List.length_append] at w
      omega
    have ef : (pre ++ [a]).flatten = pre.flatten ++ a := by simp
    have add := E_add (xs := pre.flatten) (ys := a) (lim40 (by omega))
    rw [ef]
    generalize pre.flatten = x at add
    simp [stepL, L_in_line_1, add]
  simp [F_in_line, v_mkFn, B_in_line, e0, h0, L]
theorem deeds_flat (hd : DeedsOk sch ds) : ActsOk sch ds.flatten ∧ ds.flatten.length ≤ 24 := by
  refine ⟨fun a ha => ?_, ?_⟩
  · obtain ⟨d, h1, h2⟩ := List.mem_flatten.mp ha
    exact (hd.each d h1).1 a h2
  · have := flat_len (d := 4) fun x hx => (hd.each x hx).2
    have := hd.len
    omega
theorem e_at_once (h : SchOk sch) (hd : DeedsOk sch ds) (hl : (lasts ds.flatten).length ≤ 12) : F_at_once [Enc.e sch, Enc.e ds] M = some ((Enc.e (lasts ds.flatten), false), M) := by
  have := (deeds_flat hd).2
  have hb : ¬ ((12 : Int) < (lasts ds.flatten).length) := by omega
  have e1 := e_in_line (M := M) (ds := ds) (by omega)
  have e2 := e_last_ones (M := M) (as := ds.flatten) (by omega)
  have e3 := e_demand_deeds (M := M) h hd (n := "deeds")
  generalize lasts ds.flatten = x at hb e2
  generalize ds.flatten = y at e1 e2
  simp [F_at_once, v_mkFn, B_at_once, e1, e2, e3, hb]
/-- the store behind each deed -/
def alongs (sch : Sch) (st : Sto) : List (List Act) → List Sto
  | [] => []
  | d :: ds => runs sch st d :: alongs sch (runs sch st d) ds
theorem alongs_app : ∀ {xs ys : List (List Act)} {st : Sto}, alongs sch st (xs ++ ys) = alongs sch st xs ++ alongs sch (runs sch st xs.flatten) ys
  | [], _, _ => rfl
  | x :: xs, ys, st => by
    rw [List.cons_append, alongs, alongs, alongs_app, List.flatten_cons, runs_app]
    rfl
theorem e_stores_along (h : SchOk sch) (s : StoOk sch st) (hd : DeedsOk sch ds) {m : Nat} (z : Sz sch m st) (hm : m + ds.flatten.length ≤ 40) : F_stores_along [Enc.e sch, Enc.e st, Enc.e ds] M = some ((eL (alongs sch st ds), true), M) := by
  have h0 : (0 : Nat) ≤ LIM := lim40 (by decide)
  have e0 : D.lst [] = eL ([] : List Sto) := rfl
  have ok := (deeds_flat hd).1
  have L : forL [.fz (Enc.e sch), .fz (Enc.e st), .fz (Enc.e ds), .own (eL ([] : List Sto)), .no] (.nm 4) L_stores_along_1 (ds.map Enc.e) [.fz (Enc.e sch), .fz (Enc.e st), .fz (Enc.e ds), .own (eL ([] : List Sto)), .no] M
      = some (.nx, [.fz (Enc.e sch), .fz (Enc.e (runs sch st ds.flatten)), .fz (Enc.e ds), .own (eL (alongs sch st ds)), .no], M) := by
    refine forL_pre (fun pre : List (List Act) => [.fz (Enc.e sch), .fz (Enc.e (runs sch st pre.flatten)), .fz (Enc.e ds), .own (eL (alongs sch st pre)), .no]) rfl fun pre a post e => ?_
    have hp : pre.flatten.length + a.length ≤ ds.flatten.length := by
      have w := congrArg (fun l => l.flatten.length) e
      rw [List.flatten_append, List.flatten_cons, List.length_append, List.length_append] at w
      omega
    have hpl : pre.length + 1 ≤ 6 := by
      have w := congrArg List.length e
      rw [List.length_append, List.length_cons] at w
      have := hd.len
      omega
    have ok1 : ActsOk sch pre.flatten := fun b hb => ok b (by rw [e, List.flatten_append]; exact List.mem_append_left _ hb)
    have ok2 : ActsOk sch a := (hd.each a (by rw [e]; simp)).1
    obtain ⟨s1, z1⟩ := runs_ok s ok1 z (by omega)
    have q := e_run (M := M) h s1 ok2 z1 (by omega)
    have ef : (pre ++ [a]).flatten = pre.flatten ++ a := by simp
    have ea : alongs sch st (pre ++ [a]) = alongs sch st pre ++ [runs sch (runs sch st pre.flatten) a] := alongs_app
    have la : (alongs sch st pre).length = pre.length := by
      have : ∀ (xs : List (List Act)) (st : Sto), (alongs sch st xs).length = xs.length := fun xs => by
        induction xs with
        | nil => exact fun _ => rfl
        | cons x xs ih => exact fun st => by rw [alongs, List.length_cons, List.length_cons, ih]
      exact this pre st
    rw [ef, ea, runs_app]
    have hll : (alongs sch st pre).length < LIM := lim40 (n := (alongs sch st pre).length + 1) (by omega)
    generalize alongs sch st pre = w at hll
    generalize runs sch st pre.flatten = x at q
    generalize runs sch x a = y at q
    simp [stepL, L_stores_along_1, q, eL]
    exact hll
  simp [F_stores_along, v_mkFn, B_stores_along, h0, e0, L]
theorem e_along (h : SchOk sch) (s : StoOk sch st) (hd : DeedsOk sch ds) {m : Nat} (z : Sz sch m st) (hm : m + ds.flatten.length ≤ 40) : F_along [Enc.e sch, Enc.e st, Enc.e ds] M = some ((Enc.e (alongs sch st ds), false), M) := by
  simp [F_along, v_mkFn, B_along, h, s, e_demand_deeds h hd, e_stores_along h s hd z hm]
variable {o : List Int}
theorem srt_range (h : OrdOk o) : srt o = [0, 1, 2, 3, 4, 5, 6, 7, 8, 9] := by
  have hn : ([0, 1, 2, 3, 4, 5, 6, 7, 8, 9] : List Int).Nodup := by decide
  have e : srt ([0, 1, 2, 3, 4, 5, 6, 7, 8, 9] : List Int) = [0, 1, 2, 3, 4, 5, 6, 7, 8, 9] := pw_ext_lt (srt_lt hn) (by decide +kernel) fun a => mem_srt
  rw [← e]
  refine srt_ext h.nd hn fun c => ⟨fun hc => ?_, fun hc => ?_⟩
  · have := h.rng c hc
    have : c = 0 ∨ c = 1 ∨ c = 2 ∨ c = 3 ∨ c = 4 ∨ c = 5 ∨ c = 6 ∨ c = 7 ∨ c = 8 ∨ c = 9 := by omega
    rcases this with rfl | rfl | rfl | rfl | rfl | rfl | rfl | rfl | rfl | rfl <;> decide
  · refine Classical.byContradiction fun w => ?_
    have q := len_sub (xs := c :: o) (ys := ([0, 1, 2, 3, 4, 5, 6, 7, 8, 9] : List Int)) (List.nodup_cons.mpr ⟨w, h.nd⟩) fun x hx => by
      rcases List.mem_cons.mp hx with rfl | hx
      · exact hc
      · have := h.rng x hx
        have : x = 0 ∨ x = 1 ∨ x = 2 ∨ x = 3 ∨ x = 4 ∨ x = 5 ∨ x = 6 ∨ x = 7 ∨ x = 8 ∨ x = 9 := by omega
        rcases this with rfl | rfl | rfl | rfl | rfl | rfl | rfl | rfl | rfl | rfl <;> decide
    rw [List.length_cons, h.len] at q
    exact absurd q (by decide)
theorem e_demand_order (h : OrdOk o) : F_demand_order [Enc.e o] M = some ((.non, false), M) := by
  have h10 : (o.length : Int) = 10 := by rw [h.len]; rfl
  have h1 : o.length ≤ LIM := lim40 (by rw [h.len]; decide)
  have hr : ∀ c ∈ o, 0 ≤ c := fun c hc => (h.rng c hc).1
  have hr' : ∀ c ∈ o, c ≤ 9 := fun c hc => (h.rng c hc).2
  have e1 : D.lst [.int 0, .int 1, .int 2, .int 3, .int 4, .int 5, .int 6, .int 7, .int 8, .int 9] = eL ([0, 1, 2, 3, 4, 5, 6, 7, 8, 9] : List Int) := rfl
  have er : rints 0 10 = [.int 0, .int 1, .int 2, .int 3, .int 4, .int 5, .int 6, .int 7, .int 8, .int 9] := rfl
  have hs := srt_range h
  have hx : ∀ c ∈ o, 0 ≤ c ∧ c ≤ 9 := h.rng
  have hsp : rng62 (10 : Int) = true := by decide
  have ha : (o.all fun c => decide (0 ≤ c) && decide (c ≤ 9)) = true := List.all_eq_true.mpr fun c hc => by simp [hr c hc, hr' c hc]
  simp [F_demand_order, v_mkFn, B_demand_order, h10, h1, compL_map, stepC, kC1, ha, hs, e1, er, hsp]
theorem atI_ord (h : OrdOk o) {c : Int} (hc : 0 ≤ c ∧ c ≤ 9) : atI o c = some (mvC o c) := by
  have hl := h.len
  obtain ⟨n, rfl⟩ := Int.eq_ofNat_of_zero_le hc.1
  rw [atI_lt (by omega)]
  unfold mvC
  rw [List.getD_eq_getElem?_getD, Int.toNat_natCast, List.getElem?_eq_getElem (by omega)]
  rfl
theorem e_terms_by_i (h : OrdOk o) {r : Row} (hr : ∀ c ∈ r, 0 ≤ c ∧ c ≤ 9) (hl : r.length ≤ 1000) : F_terms_by [Enc.e r, Enc.e o] M = some ((Enc.e (mvR o r), false), M) := by
  have h1 := lim40 (n := r.length) (by omega)
  have k : ∀ c ∈ r, ∀ M, F_term_by [.int c, Enc.e o] M = some ((.int (mvC o c), false), M) := fun c hc M => by
    simp [F_term_by, v_mkFn, B_term_by, atI_ord h (hr c hc)]
  have e1 : D.tup (r.map fun c => .int (mvC o c)) = Enc.e (mvR o r) := by simp [e_list, mvR]
  simp +contextual [F_terms_by, v_mkFn, B_terms_by, compL_map, stepC, kC1, h1, k, e1]
theorem e_renamed_store (h : SchOk sch) (s : StoOk sch st) (ho : OrdOk o) : F_renamed_store [Enc.e sch, Enc.e st, Enc.e o] M = some ((Enc.e (mvS o st), false), M) := by
  have h1 := lim40 (n := st.length) (by have := s.len; have := h.l4; omega)
  have hp : ∀ rs ∈ st, rs.length ≤ 40 ∧ ∀ r ∈ rs, r.length ≤ 4 ∧ r ≠ [] ∧ ∀ c ∈ r, 0 ≤ c ∧ c ≤ 9 := fun rs hrs => by
    obtain ⟨i, hi, e⟩ := List.mem_iff_getElem.mp hrs
    have hi' : i < sch.length := by rw [← s.len]; exact hi
    have ht : sch[i].1 ∈ names sch := List.mem_map_of_mem (List.getElem_mem hi')
    have ep : part sch st sch[i].1 = rs := by
      rw [part_at h.nd hi', List.getD_eq_getElem?_getD, List.getElem?_eq_getElem hi, ← e]
      rfl
    obtain ⟨a, b, c⟩ := s.ok _ ht
    rw [ep] at a b
    refine ⟨a, fun r hr => ?_⟩
    have q := isRow_iff.mp (b r hr)
    have w := h.w ht
    exact ⟨by omega, isRow_ne h ht (b r hr), q.2⟩
  have k : ∀ rs ∈ st, ∀ r ∈ rs, ∀ M, F_terms_by [Enc.e r, Enc.e o] M = some ((Enc.e (mvR o r), false), M) := fun rs hrs r hr M => by
    obtain ⟨a, b, c⟩ := (hp rs hrs).2 r hr
    exact e_terms_by_i ho c (by omega)
  have e1 : ∀ rs : List Row, D.lst (rs.map fun r => Enc.e (mvR o r)) = eL (rs.map (mvR o)) := fun rs => by simp [eL]
  have hn : ∀ rs ∈ st, [] ∉ rs.map (mvR o) := fun rs hrs hm => by
    obtain ⟨r, hr, e⟩ := List.mem_map.mp hm
    exact ((hp rs hrs).2 r hr).2.1 (List.map_eq_nil_iff.mp e)
  have hl : ∀ rs ∈ st, List.length rs ≤ LIM := fun rs hrs => lim40 (by have := (hp rs hrs).1; omega)
  have inner : ∀ rs ∈ st, ∀ (M : List MO), compL [.fz (Enc.e sch), .fz (Enc.e st), .fz (Enc.e o), .no, .fz (Enc.e rs)] (.nm 3) eYes (eFz (eFn F_terms_by (eCons (eVar 3) (eCons (eVar 2) eNil)))) (rs.map Enc.e) M = some (rs.map fun r => Enc.e (mvR o r), M) := fun rs hrs M => by
    have k' := k rs hrs
    simp +contextual [compL_map, stepC, kC1, k']
  have e5 : ∀ rs ∈ st, dSorted [eL (rs.map (mvR o))] = some (eL (sortR (rs.map (mvR o))), true) := fun rs hrs => w_sortedRL (hn rs hrs)
  have e2 : D.tup (st.map fun rs => Enc.e (sortR (rs.map (mvR o)))) = Enc.e (mvS o st) := by simp [e_list, mvS]
  simp +contextual [F_renamed_store, v_mkFn, B_renamed_store, h, s, e_demand_order ho, compL_map (xs := st), stepC, kC1, h1, inner, e1, e5, hl, e2]
end
end LW

set_option Elab.async false
set_option linter.all false
set_option maxRecDepth 100000
/-! bodies -/
namespace LW
open PySem PySem.Spec L2 R
def L__law_schema_1 : ES := sPre [] (sSet 1 (eOld (eFz (eOp dAdd (eVar 1) (eFz (eTup (eCons (eFz (eTup (eCons (eVar 2) (eCons (eFz (eFn F__law_pick (eCons (eVar 0) (eCons (eFz (eLst (eCons (eFz (eOld (eCst (.int 1)))) (eCons (eFz (eOld (eCst (.int 2)))) (eCons (eFz (eOld (eCst (.int 2)))) (eCons (eFz (eOld (eCst (.int 2)))) (eCons (eFz (eOld (eCst (.int 3)))) (eNil)))))))) (eNil))))) (eNil))))) (eNil))))))))
def B__law_schema : ES := sSeq (sPre [] (sSet 1 (eOld (eFz (eTup (eNil)))))) (sSeq (sPre [] (sFor (iSeq (eFz (eSl (eFz (eLst (eCons (eFz (eOld (eCst (.str "ash")))) (eCons (eFz (eOld (eCst (.str "box")))) (eCons (eFz (eOld (eCst (.str "cat")))) (eNil)))))) (eNoP) (eSomeP (eFz (eOp dAdd (eFz (eOld (eCst (.int 2)))) (eFz (eFn F__law_roll (eCons (eVar 0) (eCons (eFz (eOld (eCst (.int 2)))) (eNil))))))))))) (.nm 2) (L__law_schema_1))) (sRetV 1))
def F__law_schema : Fn := mkFn 3 B__law_schema
def B__law_row : ES := sPre [] (sRet (eCall dTuple (eCons (eFz (eComp [3] (iRng (eCons (eVar 1) (eNil))) (.nm 3) eYes (eFz (eFn F__law_roll (eCons (eVar 0) (eCons (eVar 2) (eNil))))))) (eNil))))
def F__law_row : Fn := mkFn 4 B__law_row
def L__law_store_1 : ES := sSeq (sPre [] (sSet 9 (eOld (eFz (eFn F__law_row (eCons (eVar 0) (eCons (eVar 6) (eCons (eVar 3) (eNil))))))))) (sPre [] (sIf (tbB (eFz (eOp (dIn true) (eVar 9) (eVar 7)))) (sPre [] (sSet 7 (eOld (eFz (eOp dAdd (eVar 7) (eFz (eTup (eCons (eVar 9) (eNil))))))))) (sNx)))
def L__law_store_2 : ES := sSeq (sPre [] (sSet 7 (eOld (eFz (eTup (eNil)))))) (sSeq (sPre [] (sFor (iRng (eCons (eFz (eFn F__law_roll (eCons (eVar 0) (eCons (eFz (eOp dAdd (eVar 2) (eFz (eOld (eCst (.int 1)))))) (eNil))))) (eNil))) (.nm 8) (L__law_store_1))) (sPre [] (sSet 4 (eOld (eFz (eOp dAdd (eVar 4) (eFz (eTup (eCons (eFz (eCall dTuple (eCons (eFz (eCall dSorted (eCons (eVar 7) (eNil)))) (eNil)))) (eNil))))))))))
def B__law_store : ES := sSeq (sPre [] (sSet 4 (eOld (eFz (eTup (eNil)))))) (sSeq (sPre [] (sFor (iSeq (eVar 1)) (.tp [.nm 5, .nm 6]) (L__law_store_2))) (sRetV 4))
def F__law_store : Fn := mkFn 10 B__law_store
def L__law_put_1 : ES := sSeq (sPre [] (sIf (tbB (eFz (eOp dEq (eFz (eIxM (eVar 6) (eFz (eOld (eCst (.int 0)))))) (eVar 3)))) (sSeq (sPre [] (sSet 7 (eOld (eFz (eCall dTuple (eCons (eFz (eComp [8] (iSeq (eVar 7)) (.nm 8) (tbB (eFz (eOp dNe (eVar 8) (eVar 4)))) (eVar 8))) (eNil))))))) (sPre [] (sIf (tbB (eFz (eOp dEq (eVar 2) (eFz (eOld (eCst (.str "put"))))))) (sPre [] (sSet 7 (eOld (eFz (eCall dTuple (eCons (eFz (eCall dSorted (eCons (eFz (eOp dAdd (eVar 7) (eFz (eTup (eCons (eVar 4) (eNil)))))) (eNil)))) (eNil))))))) (sNx)))) (sNx))) (sPre [] (sSet 5 (eOld (eFz (eOp dAdd (eVar 5) (eFz (eTup (eCons (eVar 7) (eNil)))))))))
def B__law_put : ES := sSeq (sPre [] (sSet 5 (eOld (eFz (eTup (eNil)))))) (sSeq (sPre [] (sFor (iZipD (eCons (eVar 0) (eCons (eVar 1) (eNil)))) (.tp [.nm 6, .nm 7]) (L__law_put_1))) (sRetV 5))
def F__law_put : Fn := mkFn 9 B__law_put
def L__law_run_1 : ES := sPre [] (sSet 1 (eOld (eFz (eFn F__law_put (eCons (eVar 0) (eCons (eVar 1) (eCons (eVar 3) (eCons (eVar 4) (eCons (eVar 5) (eNil))))))))))
def B__law_run : ES := sSeq (sPre [] (sFor (iSeq (eVar 2)) (.tp [.nm 3, .nm 4, .nm 5]) (L__law_run_1))) (sRetV 1)
def F__law_run : Fn := mkFn 6 B__law_run
end LW

set_option Elab.async false
set_option linter.all false
set_option maxRecDepth 100000
set_option maxHeartbeats 1000000
/-! KS: drawn schemas, rows, stores; the laws' own run -/
namespace LW
open PySem PySem.Spec L2 R
theorem pick {α : Type} [Enc α] {xs : List α} {n k : Nat} {M : List MO} (h : DOk n (k + 1) M) (hx : xs ≠ []) (hl : xs.length ≤ 1000000) :
    ∃ (x : α) (M' : List MO), F__law_pick [.obj n, eL xs] M = some ((Enc.e x, false), M') ∧ x ∈ xs ∧ DOk n k M' ∧ M'.length = M.length := by
  have hp : 0 < xs.length := List.length_pos_iff.mpr hx
  obtain ⟨r, M', e, hr, h1, l1⟩ := rollN (total := xs.length) h hp (by omega)
  refine ⟨xs[r], M', ?_, List.getElem_mem hr, h1, l1⟩
  have := atI_lt hr
  simp [F__law_pick, v_mkFn, B__law_pick, e, this]
def names3 : List Str := ["ash", "box", "cat"]
theorem word3 : ∀ x ∈ names3, ∀ M, F_is_word [.str x] M = some ((.bl true, false), M) := by
  intro x hx M
  simp only [names3, List.mem_cons, List.not_mem_nil, or_false] at hx
  rcases hx with rfl | rfl | rfl <;> kernel_rfl
theorem ris3 : names3.Pairwise fun a b => ltS a b = true := by decide +kernel
structure Small (sch : Sch) : Prop where
  ok : SchOk sch
  l2 : 2 ≤ sch.length
  l3 : sch.length ≤ 3
  w3 : ∀ p ∈ sch, p.2 ≤ 3
  nm : names sch = names3.take sch.length
theorem small_of {sch : Sch} {r : Nat} (hr : r < 2) (hn : names sch = names3.take (2 + r)) (hw : ∀ p ∈ sch, 1 ≤ p.2 ∧ p.2 ≤ 3) : Small sch := by
  have hl : sch.length = 2 + r := by
    have z := congrArg List.length hn
    simp [names, names3] at z
    omega
  refine ⟨⟨by omega, by omega, fun p hp M => word3 _ ?_ M, fun p hp => ⟨(hw p hp).1, by have := (hw p hp).2; omega⟩, ?_⟩, by omega, by omega, fun p hp => (hw p hp).2, by rw [hl]; exact hn⟩
  · have : p.1 ∈ names sch := List.mem_map_of_mem hp
    rw [hn] at this
    exact List.mem_of_mem_take this
  · rw [hn]
    exact List.Pairwise.sublist (List.take_sublist ..) ris3
theorem small_schema {n k : Nat} {M : List MO} (h : DOk n (k + 5) M) : ∃ sch M', F__law_schema [.obj n] M = some ((Enc.e sch, false), M') ∧ Small sch ∧ DOk n k M' ∧ M'.length = M.length := by
  obtain ⟨r, M1, e1, hr, h1, l1⟩ := rollN (total := 2) h (by decide) (by decide)
  have L : ∃ env' M', forL [.fz (.obj n), .fz (Enc.e ([] : Sch)), .no] (.nm 2) L__law_schema_1 ((names3.take (2 + r)).map Enc.e) [.fz (.obj n), .fz (Enc.e ([] : Sch)), .no] M1 = some (.nx, env', M') ∧
      ∃ sch : Sch, env' = [.fz (.obj n), .fz (Enc.e sch), .no] ∧ names sch = names3.take (2 + r) ∧ (∀ p ∈ sch, 1 ≤ p.2 ∧ p.2 ≤ 3) ∧ DOk n (k + 4 - (names3.take (2 + r)).length) M' ∧ M'.length = M.length := by
    refine forL_inv (fun (pre : List Str) env M' => ∃ sch : Sch, env = [.fz (.obj n), .fz (Enc.e sch), .no] ∧ names sch = pre ∧ (∀ p ∈ sch, 1 ≤ p.2 ∧ p.2 ≤ 3) ∧ DOk n (k + 4 - pre.length) M' ∧ M'.length = M.length) (fun pre a post env M2 he ⟨sch, hE, hn, hw, hd, hl⟩ => ?_) ⟨[], rfl, rfl, by simp, h1, l1⟩
    subst hE
    have hlen : pre.length + 1 ≤ 3 := by
      have z := congrArg List.length he
      simp [names3] at z
      omega
    obtain ⟨w, M3, e3, hw3, h3, l3⟩ := pick (xs := ([1, 2, 2, 2, 3] : List Nat)) (k := k + 4 - (pre.length + 1)) (hd.mono (by omega)) (by simp) (by simp)
    have hs : sch.length = pre.length := by rw [← hn]; simp [names]
    have add := E_add (xs := sch) (ys := [(a, w)]) (lim40 (by simp; omega))
    refine ⟨[.fz (.obj n), .fz (Enc.e (sch ++ [(a, w)])), .no], M3, ?_, sch ++ [(a, w)], rfl, by simp [names] at hn ⊢; exact hn, fun p hp => ?_, by simpa using h3, by rw [l3, hl]⟩
    · have e2 : D.tup [D.tup [D.str a, D.int (w : Int)]] = Enc.e [(a, w)] := by
        simp [e_list, e_pair]
      have e4 : D.lst [.int 1, .int 2, .int 2, .int 2, .int 3] = eL ([1, 2, 2, 2, 3] : List Nat) := rfl
      simp [stepL, L__law_schema_1, e3, e4, e2, add, show (2 : Nat) ≤ LIM from lim40 (by decide), show (1 : Nat) ≤ LIM from lim40 (by decide), show (5 : Nat) ≤ LIM from lim40 (by decide)]
    · rcases List.mem_append.mp hp with z | z
      · exact hw p z
      · rw [List.mem_singleton.mp z]
        simp at hw3
        dsimp only
        omega
  obtain ⟨env', M', e, sch, rfl, hn, hw, hd, hl⟩ := L
  refine ⟨sch, M', ?_, small_of hr hn hw, hd.mono (by simp [names3]; omega), hl⟩
  have e4 : D.lst [.str "ash", .str "box", .str "cat"] = eL names3 := rfl
  have e1' : F__law_roll [.obj n, .int 2] M = some ((.int (r : Nat), false), M1) := e1
  have e0 : D.tup [] = Enc.e ([] : Sch) := rfl
  have ec : cutD names3 none (some (2 + (r : Int))) = names3.take (2 + r) := by
    have z := cut_take names3 (2 + r)
    simpa using z
  generalize names3.take (2 + r) = xs at e ec
  simp [F__law_schema, v_mkFn, B__law_schema, e4, e1', e0, ec, e, show (0 : Nat) ≤ LIM from lim40 (by decide), show (3 : Nat) ≤ LIM from lim40 (by decide)]
/-- a drawn row -/
def Cells (b : Int) (w : Nat) (r : Row) : Prop := r.length = w ∧ ∀ c ∈ r, 0 ≤ c ∧ c < b
theorem law_row0 {n k w : Nat} {b : Int} {M : List MO} (hb : 0 < b) (hb2 : b < 1073741824) (h : DOk n (k + w) M) :
    ∃ (r : Row) (M' : List MO), compL [.fz (.obj n), .fz (.int (w : Nat)), .fz (.int b), .no] (.nm 3) eYes (eFz (eFn F__law_roll (eCons (eVar 0) (eCons (eVar 2) eNil)))) (rints 0 w) M = some (r.map Enc.e, M') ∧ Cells b w r ∧ DOk n k M' ∧ M'.length = M.length := by
  have L := compL_inv (env := [.fz (.obj n), .fz (.int (w : Nat)), .fz (.int b), .no]) (tg := .nm 3) (cond := eYes) (elt := eFz (eFn F__law_roll (eCons (eVar 0) (eCons (eVar 2) eNil)))) (g := fun i : Nat => D.int (0 + (i : Int))) (xs := List.range w) (M := M)
    (fun pre ds M' => ∃ r : Row, ds = r.map Enc.e ∧ r.length = pre.length ∧ (∀ c ∈ r, 0 ≤ c ∧ c < b) ∧ DOk n (k + w - pre.length) M' ∧ M'.length = M.length) (fun pre a post ds M1 he ⟨r, hd, hlen, hc, hD, hM⟩ => by
      have hp : pre.length + 1 ≤ w := by
        have z := congrArg List.length he
        simp at z
        omega
      obtain ⟨c, M2, e2, c0, c1, h2, l2⟩ := roll (k := k + w - (pre.length + 1)) (hD.mono (by omega)) hb hb2
      refine ⟨some (.int c), M2, ?_, r ++ [c], by rw [hd]; simp, by simp [hlen], fun x hx => ?_, by simpa using h2, by rw [l2, hM]⟩
      · simp [stepC, kC1, e2]
      · rcases List.mem_append.mp hx with z | z
        · exact hc x z
        · rw [List.mem_singleton.mp z]
          exact ⟨c0, c1⟩) ⟨[], rfl, rfl, by simp, h, rfl⟩
  obtain ⟨ds, M', e, r, rfl, hlen, hc, hD, hM⟩ := L
  rw [List.length_range] at hlen hD
  exact ⟨r, M', e, ⟨hlen, hc⟩, hD.mono (by omega), hM⟩
theorem law_row {n k w : Nat} {b : Int} {M : List MO} (hb : 0 < b) (hb2 : b < 1073741824) (hw : w ≤ 40) (h : DOk n (k + w) M) :
    ∃ (r : Row) (M' : List MO), F__law_row [.obj n, .int (w : Nat), .int b] M = some ((Enc.e r, false), M') ∧ Cells b w r ∧ DOk n k M' ∧ M'.length = M.length := by
  obtain ⟨r, M', e, h1, h2, h3⟩ := law_row0 hb hb2 h
  refine ⟨r, M', ?_, h1, h2, h3⟩
  have hl := h1.1
  have hr : rng62 (w : Int) = true := by
    unfold rng62
    rw [decide_eq_true_eq]
    omega
  have hrl : r.length ≤ LIM := lim40 (by omega)
  have e3 : D.tup (r.map Enc.e) = Enc.e r := rfl
  simp [F__law_row, v_mkFn, B__law_row, hr, e, hrl, e3]
/-- the rows of a table -/
def ColsB (b : Int) (most w : Nat) (rs : List Row) : Prop := rs.length ≤ most ∧ (∀ r ∈ rs, Cells b w r) ∧ rs.Pairwise (· < ·)
theorem law_rows {n k span many : Nat} {b : Int} {d1 d2 d4 d5 : Sl} {M : List MO} (hb : 0 < b) (hb2 : b ≤ 10) (hs : 1 ≤ span) (hs4 : span ≤ 4) (hm : many ≤ 40) (h : DOk n (k + 4 * many) M) :
    ∃ (rs : List Row) (M' : List MO), forL [.fz (.obj n), d1, d2, .fz (.int b), d4, d5, .fz (.int (span : Nat)), .fz (Enc.e ([] : List Row)), .no, .no] (.nm 8) L__law_store_1 (rints 0 many) [.fz (.obj n), d1, d2, .fz (.int b), d4, d5, .fz (.int (span : Nat)), .fz (Enc.e ([] : List Row)), .no, .no] M
      = some (.nx, [.fz (.obj n), d1, d2, .fz (.int b), d4, d5, .fz (.int (span : Nat)), .fz (Enc.e rs), .no, .no], M') ∧ rs.length ≤ many ∧ rs.Nodup ∧ (∀ r ∈ rs, Cells b span r) ∧ DOk n k M' ∧ M'.length = M.length := by
  have L := forL_inv (e0 := [.fz (.obj n), d1, d2, .fz (.int b), d4, d5, .fz (.int (span : Nat)), .fz (Enc.e ([] : List Row)), .no, .no]) (env := [.fz (.obj n), d1, d2, .fz (.int b), d4, d5, .fz (.int (span : Nat)), .fz (Enc.e ([] : List Row)), .no, .no]) (t := .nm 8) (body := L__law_store_1) (g := fun i : Nat => D.int (0 + (i : Int))) (xs := List.range many) (M := M)
    (fun pre env M' => ∃ rs : List Row, env = [.fz (.obj n), d1, d2, .fz (.int b), d4, d5, .fz (.int (span : Nat)), .fz (Enc.e rs), .no, .no] ∧ rs.length ≤ pre.length ∧ rs.Nodup ∧ (∀ r ∈ rs, Cells b span r) ∧ DOk n (k + 4 * (many - pre.length)) M' ∧ M'.length = M.length) (fun pre a post env M1 he ⟨rs, hE, hl, hn, hr, hD, hM⟩ => by
      subst hE
      have hp : pre.length + 1 ≤ many := by
        have z := congrArg List.length he
        simp at z
        omega
      obtain ⟨r, M2, e2, rc, h2, l2⟩ := law_row (w := span) (k := k + 4 * (many - (pre.length + 1))) hb (by omega) (by omega) (hD.mono (by omega))
      by_cases hmem : r ∈ rs
      · refine ⟨[.fz (.obj n), d1, d2, .fz (.int b), d4, d5, .fz (.int (span : Nat)), .fz (Enc.e rs), .no, .no], M2, ?_, rs, rfl, by simp; omega, hn, hr, by simpa using h2, by rw [l2, hM]⟩
        simp [stepL, L__law_store_1, e2, hmem]
      · have add := E_add (xs := rs) (ys := [r]) (lim40 (by simp; omega))
        have e4 : D.tup [Enc.e r] = Enc.e [r] := rfl
        refine ⟨[.fz (.obj n), d1, d2, .fz (.int b), d4, d5, .fz (.int (span : Nat)), .fz (Enc.e (rs ++ [r])), .no, .no], M2, ?_, rs ++ [r], rfl, by simp; omega, ?_, fun x hx => ?_, by simpa using h2, by rw [l2, hM]⟩
        · simp [stepL, L__law_store_1, e2, hmem, e4, add, show (1 : Nat) ≤ LIM from lim40 (by decide)]
        · rw [List.nodup_append]
          refine ⟨hn, by simp, fun x hx y hy e => ?_⟩
          rw [List.mem_singleton.mp hy] at e
          exact hmem (e ▸ hx)
        · rcases List.mem_append.mp hx with z | z
          · exact hr x z
          · rw [List.mem_singleton.mp z]
            exact rc) ⟨[], rfl, by simp, by simp, by simp, by simpa using h, rfl⟩
  obtain ⟨env', M', e, rs, rfl, h1, h2, h3, h4, h5⟩ := L
  rw [List.length_range] at h1 h4
  exact ⟨rs, M', e, h1, h2, h3, h4.mono (by omega), h5⟩
theorem cols_of {b : Int} {most w : Nat} {rs : List Row} (hb : b ≤ 10) (h : ColsB b most w rs) : Cols most w rs := ⟨h.1, fun r hr => ⟨(h.2.1 r hr).1, fun c hc => by have := (h.2.1 r hr).2 c hc; omega⟩, h.2.2⟩
/-- a drawn store: rows of so many cells, at most so many a table -/
structure Drawn (sch : Sch) (b : Int) (most : Nat) (st : Sto) : Prop where
  ok : StoOk sch st
  sz : Sz sch most st
  cells : ∀ t ∈ names sch, ∀ r ∈ part sch st t, Cells b (width sch t) r
theorem law_store {n k most : Nat} {b : Int} {sch : Sch} {M : List MO} (hs : SchOk sch) (hm : most ≤ 40) (hb : 0 < b) (hb2 : b ≤ 10) (h : DOk n (k + 1000) M) :
    ∃ (st : Sto) (M' : List MO), F__law_store [.obj n, Enc.e sch, .int (most : Nat), .int b] M = some ((Enc.e st, false), M') ∧ Drawn sch b most st ∧ DOk n k M' ∧ M'.length = M.length := by
  have L := forL_inv (e0 := [.fz (.obj n), .fz (Enc.e sch), .fz (.int (most : Nat)), .fz (.int b), .fz (Enc.e ([] : Sto)), .no, .no, .no, .no, .no]) (env := [.fz (.obj n), .fz (Enc.e sch), .fz (.int (most : Nat)), .fz (.int b), .fz (Enc.e ([] : Sto)), .no, .no, .no, .no, .no]) (t := .tp [.nm 5, .nm 6]) (body := L__law_store_2) (g := Enc.e) (xs := sch) (M := M)
    (fun (pre : Sch) env M' => ∃ st : Sto, env = [.fz (.obj n), .fz (Enc.e sch), .fz (.int (most : Nat)), .fz (.int b), .fz (Enc.e st), .no, .no, .no, .no, .no] ∧ st.length = pre.length ∧ (∀ i (hi : i < pre.length), ColsB b most pre[i].2 (st.getD i [])) ∧ DOk n (k + 200 * (4 - pre.length)) M' ∧ M'.length = M.length) (fun pre a post env M1 he ⟨st, hE, hl, hc, hD, hM⟩ => by
      subst hE
      have h4 := hs.l4
      have hp : pre.length + 1 ≤ 4 := by
        have z := congrArg List.length he
        simp at z
        omega
      have hw := hs.wid a (by rw [he]; simp)
      obtain ⟨many, M2, e2, hmany, h2, l2⟩ := rollN (k := k + 200 * (4 - (pre.length + 1)) + 180) (total := most + 1) (hD.mono (by omega)) (by omega) (by omega)
      obtain ⟨rs, M3, e3, r1, r2, r3, h3, l3⟩ := law_rows (b := b) (d1 := .fz (Enc.e sch)) (d2 := .fz (.int (most : Nat))) (d4 := .fz (Enc.e st)) (d5 := .fz (.str a.1)) (k := k + 200 * (4 - (pre.length + 1))) (span := a.2) (many := many) hb hb2 hw.1 hw.2 (by omega) (h2.mono (by omega))
      have hnil : [] ∉ rs := fun hx => by
        have := (r3 [] hx).1
        simp at this
        omega
      have add := E_add (xs := st) (ys := [sortR rs]) (lim40 (by simp; omega))
      have e4 : D.tup [Enc.e (sortR rs)] = Enc.e [sortR rs] := rfl
      have hr : rng62 (many : Int) = true := by
        unfold rng62
        rw [decide_eq_true_eq]
        omega
      have e2' : F__law_roll [.obj n, .int ((most : Int) + 1)] M1 = some ((.int (many : Nat), false), M2) := e2
      have e0 : D.tup [] = Enc.e ([] : List Row) := rfl
      refine ⟨[.fz (.obj n), .fz (Enc.e sch), .fz (.int (most : Nat)), .fz (.int b), .fz (Enc.e (st ++ [sortR rs])), .no, .no, .no, .no, .no], M3, ?_, st ++ [sortR rs], rfl, by simp [hl], fun i hi => ?_, by simpa using h3, by rw [l3, l2, hM]⟩
      · simp [stepL, L__law_store_2, e0, e2', hr, e3, hnil, e4, add, show (0 : Nat) ≤ LIM from lim40 (by decide), show (1 : Nat) ≤ LIM from lim40 (by decide)]
      · rw [List.getD_eq_getElem?_getD]
        rcases Nat.lt_or_ge i pre.length with z | z
        · rw [List.getElem_append_left z, List.getElem?_append_left (by omega), ← List.getD_eq_getElem?_getD]
          exact hc i z
        · have ei : i = pre.length := by simp at hi; omega
          subst ei
          rw [List.getElem_append_right (Nat.le_refl _), List.getElem?_append_right (by omega)]
          simp [hl]
          exact ⟨by rw [len_sortR]; omega, fun r hr => r3 r (mem_sortR.mp hr), sortR_pw r2⟩) ⟨[], rfl, rfl, fun i hi => by simp at hi, by simpa using h.mono (by omega), rfl⟩
  obtain ⟨env', M', e, st, rfl, hl, hc, hD, hM⟩ := L
  obtain ⟨q1, q2⟩ := sto_of_cols hs hm hl fun i hi => cols_of hb2 (hc i hi)
  refine ⟨st, M', ?_, ⟨q1, q2, fun t ht r hr => ?_⟩, hD.mono (by omega), hM⟩
  · have e0 : D.tup [] = Enc.e ([] : Sto) := rfl
    simp [F__law_store, v_mkFn, B__law_store, e0, e, show (0 : Nat) ≤ LIM from lim40 (by decide)]
  · obtain ⟨i, hi, rfl⟩ := names_at ht
    rw [part_at hs.nd hi] at hr
    rw [width_mem hs.nd (List.getElem_mem hi)]
    exact (hc i hi).2.1 r hr
/-! ### the laws' own run -/
section
variable {M : List MO} {sch : Sch} {st : Sto} {as : List Act} {a : Act}
def putL (sch : Sch) (st : Sto) (a : Act) : Sto := (sch.zip st).map fun p => if p.1.1 = a.b then (if a.a = "put" then sortR ((p.2.filter fun r => !decide (r = a.c)) ++ [a.c]) else p.2.filter fun r => !decide (r = a.c)) else p.2
theorem part_putL (hs : SchOk sch) (s : StoOk sch st) {t : Str} (ht : t ∈ names sch) : part sch (putL sch st a) t = if t = a.b then (if a.a = "put" then sortR (((part sch st t).filter fun r => !decide (r = a.c)) ++ [a.c]) else (part sch st t).filter fun r => !decide (r = a.c)) else part sch st t := by
  obtain ⟨i, hi, rfl⟩ := names_at ht
  have hl := s.len
  have hi' : i < st.length := by omega
  rw [part_at hs.nd hi, part_at hs.nd hi]
  unfold putL
  rw [List.getD_eq_getElem?_getD, List.getElem?_map, List.getD_eq_getElem?_getD, List.getElem?_eq_getElem hi', List.getElem?_eq_getElem (by rw [List.length_zip]; omega), List.getElem_zip]
  rfl
theorem putL_doA (hs : SchOk sch) (s : StoOk sch st) (ha : ActOk sch a) {m : Nat} (z : Sz sch m st) (hm : m + 1 ≤ 40) : putL sch st a = doA sch st a := by
  have s1 := (doA_ok s ha z hm).1
  have hok : StoOk sch (putL sch st a) := ⟨by simp [putL, s.len], fun t ht => by
    obtain ⟨p1, p2, p3⟩ := s.ok t ht
    have fl := List.length_filter_le (fun r => !decide (r = a.c)) (part sch st t)
    have zt := z t ht
    rw [part_putL hs s ht]
    by_cases e : t = a.b
    · rw [if_pos e]
      by_cases v : a.a = "put"
      · rw [if_pos v]
        refine ⟨by rw [len_sortR, List.length_append, List.length_singleton]; omega, fun r hr => ?_, sortR_pw ?_⟩
        · rcases List.mem_append.mp (mem_sortR.mp hr) with q | q
          · exact p2 r (List.mem_filter.mp q).1
          · rw [List.mem_singleton.mp q, e]
            exact ha.row
        · rw [List.nodup_append]
          refine ⟨(pw_nodup p3).sublist List.filter_sublist, by simp, fun x hx y hy q => ?_⟩
          rw [List.mem_singleton.mp hy] at q
          have w := (List.mem_filter.mp hx).2
          rw [q] at w
          simp at w
      · rw [if_neg v]
        exact ⟨by omega, fun r hr => p2 r (List.mem_filter.mp hr).1, p3.sublist List.filter_sublist⟩
    · rw [if_neg e]
      exact ⟨p1, p2, p3⟩⟩
  refine sto_ext hs.nd hok s1 fun t ht r => ?_
  rw [mem_doA s ha ht, part_putL hs s ht]
  have hk : (a.key = (t, r)) = (a.b = t ∧ a.c = r) := by
    unfold Act.key
    rw [Prod.mk.injEq]
  simp only [hk]
  by_cases e : t = a.b
  · rw [if_pos e]
    by_cases v : a.a = "put"
    · rw [if_pos v, mem_sortR, List.mem_append, List.mem_singleton, List.mem_filter]
      by_cases q : a.c = r
      · rw [if_pos ⟨e.symm, q⟩]
        exact ⟨fun _ => v, fun _ => .inr q.symm⟩
      · rw [if_neg fun w => q w.2]
        have q' : ¬ r = a.c := fun w => q w.symm
        simp [q']
    · rw [if_neg v, List.mem_filter]
      by_cases q : a.c = r
      · rw [if_pos ⟨e.symm, q⟩]
        have q' : r = a.c := q.symm
        simp [v, q']
      · rw [if_neg fun w => q w.2]
        have q' : ¬ r = a.c := fun w => q w.symm
        simp [q']
  · rw [if_neg e, if_neg fun w => e w.1.symm]
theorem e_law_put (hs : SchOk sch) (s : StoOk sch st) (ha : ActOk sch a) {m : Nat} (z : Sz sch m st) (hm : m + 1 ≤ 40) : F__law_put [Enc.e sch, Enc.e st, .str a.a, .str a.b, Enc.e a.c] M = some ((Enc.e (doA sch st a), false), M) := by
  rw [← putL_doA hs s ha z hm]
  have e0 : D.tup [] = Enc.e ([] : Sto) := rfl
  have h4 := hs.l4
  have L : forL [.fz (Enc.e sch), .fz (Enc.e st), .fz (.str a.a), .fz (.str a.b), .fz (Enc.e a.c), .fz (Enc.e ([] : Sto)), .no, .no, .no] (.tp [.nm 6, .nm 7]) L__law_put_1 ((sch.zip st).map fun p => .tup [Enc.e p.1, Enc.e p.2]) [.fz (Enc.e sch), .fz (Enc.e st), .fz (.str a.a), .fz (.str a.b), .fz (Enc.e a.c), .fz (Enc.e ([] : Sto)), .no, .no, .no] M
      = some (.nx, [.fz (Enc.e sch), .fz (Enc.e st), .fz (.str a.a), .fz (.str a.b), .fz (Enc.e a.c), .fz (Enc.e (putL sch st a)), .no, .no, .no], M) := by
    refine forL_pre (fun pre : List ((Str × Nat) × List Row) => [.fz (Enc.e sch), .fz (Enc.e st), .fz (.str a.a), .fz (.str a.b), .fz (Enc.e a.c), .fz (Enc.e (pre.map fun p => if p.1.1 = a.b then (if a.a = "put" then sortR ((p.2.filter fun r => !decide (r = a.c)) ++ [a.c]) else p.2.filter fun r => !decide (r = a.c)) else p.2)), .no, .no, .no]) rfl fun pre p post e => ?_
    have hmem : p ∈ sch.zip st := by rw [e]; simp
    obtain ⟨ht, hpp⟩ := part_zip hs.nd (p := p.1) (rs := p.2) hmem
    obtain ⟨p1, p2, p3⟩ := s.ok _ ht
    rw [hpp] at p1 p2 p3
    have hp : pre.length + 1 ≤ 4 := by
      have w := congrArg List.length e
      rw [List.length_append, List.length_cons, List.length_zip] at w
      omega
    have hlr : p.2.length ≤ LIM := lim40 (by omega)
    have fl := List.length_filter_le (fun r => !decide (r = a.c)) p.2
    have hn : [] ∉ p.2 := fun hx => isRow_ne hs ht (p2 _ hx) rfl
    have hac : [] ≠ a.c := fun hx => isRow_ne hs ha.tab ha.row hx.symm
    have e3 : D.tup [Enc.e a.c] = Enc.e [a.c] := rfl
    have h1 : (1 : Nat) ≤ LIM := lim40 (by decide)
    have eF : ∀ q : Row → Bool, D.lst ((p.2.filter q).map Enc.e) = eL (p.2.filter q) := fun _ => rfl
    rw [List.map_append, List.map_singleton]
    have lenm : (pre.map fun p => if p.1.1 = a.b then (if a.a = "put" then sortR ((p.2.filter fun r => !decide (r = a.c)) ++ [a.c]) else p.2.filter fun r => !decide (r = a.c)) else p.2).length ≤ 4 := by rw [List.length_map]; omega
    generalize (pre.map fun p => if p.1.1 = a.b then (if a.a = "put" then sortR ((p.2.filter fun r => !decide (r = a.c)) ++ [a.c]) else p.2.filter fun r => !decide (r = a.c)) else p.2) = x at lenm
    have add2 : ∀ y : List Row, dAdd (Enc.e x) (D.tup [Enc.e y]) = some (Enc.e (x ++ [y]), false) := fun y => E_add (xs := x) (ys := [y]) (lim40 (by simp; omega))
    by_cases ht2 : p.1.1 = a.b
    · have flm : (p.2.filter fun r => !decide (r = a.c)).length ≤ LIM := lim40 (by omega)
      have hnf : [] ∉ (p.2.filter fun r => !decide (r = a.c)) := fun hx => hn (List.mem_filter.mp hx).1
      have add1 := E_add (xs := p.2.filter fun r => !decide (r = a.c)) (ys := [a.c]) (lim40 (by rw [List.length_singleton]; omega))
      by_cases hv : a.a = "put"
      · have hns : [] ∉ (p.2.filter fun r => !decide (r = a.c)) ++ [a.c] := fun hx => (List.mem_append.mp hx).elim hnf fun q => hac (List.mem_singleton.mp q)
        have ws := w_sortedR hns
        have zl : (sortR ((p.2.filter fun r => !decide (r = a.c)) ++ [a.c])).length ≤ LIM := by rw [len_sortR, List.length_append, List.length_singleton]; exact lim40 (by omega)
        simp only [ht2, hv, if_true]
        have C : ∀ (x : D) (M : List MO), compL [.fz (Enc.e sch), .fz (Enc.e st), .fz (.str a.a), .fz (.str a.b), .fz (Enc.e a.c), .fz x, .fz (Enc.e p.1), .fz (Enc.e p.2), .no] (.nm 8) (tbB (eFz (eOp dNe (eVar 8) (eVar 4)))) (eVar 8) (p.2.map Enc.e) M = some ((p.2.filter fun r => !decide (r = a.c)).map Enc.e, M) := fun x M => by
          simp [compL_map, stepC, kC1]
        rw [hv] at C
        generalize (p.2.filter fun r => !decide (r = a.c)) = y at add1 flm hnf ws C eF zl
        have eT : D.tup (y.map Enc.e) = Enc.e y := rfl
        generalize sortR (y ++ [a.c]) = w at ws zl
        simp [stepL, L__law_put_1, ht2, hv, C, flm, eT, e3, add1, ws, h1, zl, add2]
      · simp only [ht2, hv, if_true, if_false]
        have C : ∀ (x : D) (M : List MO), compL [.fz (Enc.e sch), .fz (Enc.e st), .fz (.str a.a), .fz (.str a.b), .fz (Enc.e a.c), .fz x, .fz (Enc.e p.1), .fz (Enc.e p.2), .no] (.nm 8) (tbB (eFz (eOp dNe (eVar 8) (eVar 4)))) (eVar 8) (p.2.map Enc.e) M = some ((p.2.filter fun r => !decide (r = a.c)).map Enc.e, M) := fun x M => by
          simp [compL_map, stepC, kC1]
        generalize (p.2.filter fun r => !decide (r = a.c)) = y at add1 flm hnf C eF
        have eT : D.tup (y.map Enc.e) = Enc.e y := rfl
        simp [stepL, L__law_put_1, ht2, hv, C, flm, eT, h1, add2]
    · simp only [ht2, if_false]
      simp [stepL, L__law_put_1, ht2, h1, add2]
  have hz : zipD (sch.map Enc.e) (st.map Enc.e) = (sch.zip st).map fun p => .tup [Enc.e p.1, Enc.e p.2] := zipD_map _ _ _ _
  simp [F__law_put, v_mkFn, B__law_put, e0, hz, L, show (0 : Nat) ≤ LIM from lim40 (by decide)]
theorem e_law_run (h : SchOk sch) (s : StoOk sch st) (ha : ActsOk sch as) {m : Nat} (z : Sz sch m st) (hm : m + as.length ≤ 40) : F__law_run [Enc.e sch, Enc.e st, Enc.e as] M = some ((Enc.e (runs sch st as), false), M) := by
  have L : forL [.fz (Enc.e sch), .fz (Enc.e st), .fz (Enc.e as), .no, .no, .no] (.tp [.nm 3, .nm 4, .nm 5]) L__law_run_1 (as.map Enc.e) [.fz (Enc.e sch), .fz (Enc.e st), .fz (Enc.e as), .no, .no, .no] M
      = some (.nx, [.fz (Enc.e sch), .fz (Enc.e (runs sch st as)), .fz (Enc.e as), .no, .no, .no], M) := by
    refine forL_pre (fun pre : List Act => [.fz (Enc.e sch), .fz (Enc.e (runs sch st pre)), .fz (Enc.e as), .no, .no, .no]) rfl fun pre a post e => ?_
    have hp : m + pre.length + 1 ≤ 40 := by
      have w := congrArg List.length e
      rw [List.length_append, List.length_cons] at w
      omega
    have ha1 : ActsOk sch pre := fun b hb => ha b (by rw [e]; exact List.mem_append_left _ hb)
    obtain ⟨s1, z1⟩ := runs_ok s ha1 z (by omega)
    have q := e_law_put (M := M) h s1 (ha a (by rw [e]; simp)) z1 hp
    have er : runs sch st (pre ++ [a]) = doA sch (runs sch st pre) a := runs_app
    rw [er]
    generalize runs sch st pre = x at q
    simp [stepL, L__law_run_1, q]
  simp [F__law_run, v_mkFn, B__law_run, L]
end
end LW

set_option Elab.async false
set_option linter.all false
set_option maxRecDepth 100000
/-! bodies -/
namespace LW
open PySem PySem.Spec L2 R
def L__law_actions_1 : ES := sSeq (sPre [] (sTup (.tp [.nm 6, .nm 7]) (eFz (eFn F__law_pick (eCons (eVar 0) (eCons (eFz (eCall dList (eCons (eVar 1) (eNil)))) (eNil))))))) (sPre [] (sSet 4 (eOld (eFz (eOp dAdd (eVar 4) (eFz (eTup (eCons (eFz (eTup (eCons (eFz (eFn F__law_pick (eCons (eVar 0) (eCons (eFz (eLst (eCons (eFz (eOld (eCst (.str "put")))) (eCons (eFz (eOld (eCst (.str "take")))) (eNil))))) (eNil))))) (eCons (eVar 6) (eCons (eFz (eFn F__law_row (eCons (eVar 0) (eCons (eVar 7) (eCons (eVar 2) (eNil)))))) (eNil)))))) (eNil)))))))))
def B__law_actions : ES := sSeq (sPre [] (sSet 4 (eOld (eFz (eTup (eNil)))))) (sSeq (sPre [] (sFor (iRng (eCons (eFz (eFn F__law_roll (eCons (eVar 0) (eCons (eFz (eOp dAdd (eVar 3) (eFz (eOld (eCst (.int 1)))))) (eNil))))) (eNil))) (.nm 5) (L__law_actions_1))) (sRetV 4))
def F__law_actions : Fn := mkFn 8 B__law_actions
def B__law_last : ES := sSeq (sPre [] (sSet 1 (eOld (eFz (eComp [2, 3, 4] (iSeq (eVar 0)) (.tp [.nm 2, .nm 3, .nm 4]) eYes (eFz (eTup (eCons (eVar 3) (eCons (eVar 4) (eNil)))))))))) (sPre [] (sRet (eCall dTuple (eCons (eFz (eComp [5, 6] (iEnumD (eVar 0)) (.tp [.nm 5, .nm 6]) (tbB (eFz (eOp (dIn true) (eFz (eIxM (eVar 1) (eVar 5))) (eFz (eSl (eVar 1) (eSomeP (eFz (eOp dAdd (eVar 5) (eFz (eOld (eCst (.int 1))))))) (eNoP)))))) (eVar 6))) (eNil)))))
def F__law_last : Fn := mkFn 7 B__law_last
def B__law_moved : ES := sPre [] (sRet (eCall dTuple (eCons (eFz (eComp [3, 4, 5] (iSeq (eVar 0)) (.tp [.nm 3, .nm 4, .nm 5]) eYes (eFz (eTup (eCons (eVar 3) (eCons (eVar 4) (eCons (eFz (eCall dTuple (eCons (eFz (eComp [2] (iSeq (eVar 5)) (.nm 2) eYes (eFz (eIxM (eVar 1) (eVar 2))))) (eNil)))) (eNil)))))))) (eNil))))
def F__law_moved : Fn := mkFn 6 B__law_moved
def L__law_back_1 : ES := sSeq (sPre [] (sSet 3 (eOld (eFz (eOp dAdd (eVar 3) (eFz (eCall dTuple (eCons (eFz (eComp [8] (iSeq (eVar 6)) (.nm 8) (tbB (eFz (eOp (dIn true) (eVar 8) (eVar 7)))) (eFz (eTup (eCons (eFz (eOld (eCst (.str "take")))) (eCons (eFz (eIxM (eVar 5) (eFz (eOld (eCst (.int 0)))))) (eCons (eVar 8) (eNil)))))))) (eNil))))))))) (sPre [] (sSet 4 (eOld (eFz (eOp dAdd (eVar 4) (eFz (eCall dTuple (eCons (eFz (eComp [8] (iSeq (eVar 7)) (.nm 8) (tbB (eFz (eOp (dIn true) (eVar 8) (eVar 6)))) (eFz (eTup (eCons (eFz (eOld (eCst (.str "put")))) (eCons (eFz (eIxM (eVar 5) (eFz (eOld (eCst (.int 0)))))) (eCons (eVar 8) (eNil)))))))) (eNil)))))))))
def B__law_back : ES := sSeq (sPre [] (sTup (.tp [.nm 3, .nm 4]) (eFz (eTup (eCons (eFz (eTup (eNil))) (eCons (eFz (eTup (eNil))) (eNil))))))) (sSeq (sPre [] (sFor (iZip3 (eCons (eVar 0) (eCons (eVar 1) (eCons (eVar 2) (eNil))))) (.tp [.nm 5, .nm 6, .nm 7]) (L__law_back_1))) (sPre [] (sRet (eOp dAdd (eVar 3) (eVar 4)))))
def F__law_back : Fn := mkFn 9 B__law_back
end LW

set_option Elab.async false
set_option linter.all false
set_option maxRecDepth 100000
set_option maxHeartbeats 1000000
/-! K11e: the law's own functions -/
namespace LW
open PySem PySem.Spec L2 R
section
variable {M : List MO} {sch : Sch} {st st' : Sto} {as : List Act} {a : Act} {o : List Int}
theorem e_law_last (hl : as.length ≤ 1000) : F__law_last [Enc.e as] M = some ((Enc.e (lasts as), false), M) := by
  have h1 := lim40 (n := as.length) (by omega)
  have l2 : (2 : Nat) ≤ LIM := lim40 (by decide)
  have e1 : D.lst (as.map fun a => D.tup [.str a.b, Enc.e a.c]) = eL (as.map fun a => (a.b, a.c)) := by simp [eL, e_pair]
  have hd : Enc.dp (Str × Row) ≤ 60 := by decide
  have h2 := lim40 (n := (lasts as).length) (by have := lasts_len (as := as); omega)
  have hat : ∀ p ∈ as.zipIdx, atI (as.map fun a => (a.b, a.c)) (p.2 : Nat) = some (p.1.b, p.1.c) := fun p hp => by
    have z := List.mem_zipIdx hp
    rw [R.atI_nat, List.getElem?_map]
    have q : as[p.2]? = some p.1 := by
      rw [z.2.2]
      simp
    rw [q]
    rfl
  have z := filt_e as
  generalize hrows : (as.map fun a => (a.b, a.c)) = rows at e1 z hat
  have hrl : rows.length ≤ LIM := by rw [← hrows, List.length_map]; exact h1
  have z2 := congrArg List.length z
  rw [List.length_map, List.length_map] at z2
  simp +contextual [F__law_last, v_mkFn, B__law_last, compL_map, stepC, kC1, h1, e1, enumD_map', cut_drop1, hd, z, z2, h2, hat, l2]
  rfl
theorem e_law_moved (h : OrdOk o) (hl : as.length ≤ 1000) (ha : ∀ a ∈ as, List.length a.c ≤ 40 ∧ ∀ c ∈ a.c, 0 ≤ c ∧ c ≤ 9) : F__law_moved [Enc.e as, Enc.e o] M = some ((Enc.e (as.map (mvA o)), false), M) := by
  have h1 := lim40 (n := as.length) (by omega)
  have l3 : (3 : Nat) ≤ LIM := lim40 (by decide)
  have hl : ∀ a ∈ as, List.length a.c ≤ LIM := fun a h => lim40 (by have := (ha a h).1; omega)
  have inner : ∀ a ∈ as, ∀ (d : Sl) (M : List MO), compL [.fz (Enc.e as), .fz (Enc.e o), d, .fz (.str a.a), .fz (.str a.b), .fz (Enc.e a.c)] (.nm 2) eYes (eFz (eIxM (eVar 1) (eVar 2))) (a.c.map Enc.e) M = some (a.c.map fun c => .int (mvC o c), M) := fun a h' d M => by
    have k : ∀ c ∈ a.c, atI o c = some (mvC o c) := fun c hc => atI_ord h ((ha a h').2 c hc)
    simp +contextual [compL_map, stepC, kC1, k]
  have e1 : ∀ a : Act, D.tup [.str a.a, .str a.b, .tup (a.c.map fun c => .int (mvC o c))] = Enc.e (mvA o a) := fun a => by simp [e_tri, e_list, mvA, mvR]
  have e2 : D.tup (as.map fun a => Enc.e (mvA o a)) = Enc.e (as.map (mvA o)) := by simp [e_list]
  simp +contextual [F__law_moved, v_mkFn, B__law_moved, compL_map (xs := as), stepC, kC1, h1, l3, inner, hl, e1, e2]
theorem minus_flat (hs : SchOk sch) (s : StoOk sch st) (s' : StoOk sch st') : minus sch st st' = (sch.zip (st.zip st')).flatMap fun p => (p.2.1.filter fun r => !decide (r ∈ p.2.2)).map fun r => (p.1.1, r) := by
  unfold minus
  rw [listed_eq hs.nd s.len, List.filter_flatMap]
  have e : names sch = (sch.zip (st.zip st')).map fun p => p.1.1 := by
    unfold names
    have h1 := s.len
    have h2 := s'.len
    refine List.ext_getElem (by simp; omega) fun i hi hi' => ?_
    simp
  rw [e, List.flatMap_map]
  refine flatMap_cg fun p hp => ?_
  obtain ⟨i, hi, q⟩ := List.mem_iff_getElem.mp hp
  rw [List.length_zip, List.length_zip] at hi
  have h1 := s.len
  have h2 := s'.len
  rw [List.getElem_zip, List.getElem_zip] at q
  subst q
  dsimp only
  have p1 : part sch st sch[i].1 = st[i] := by
    rw [part_at hs.nd (by omega), List.getD_eq_getElem?_getD, List.getElem?_eq_getElem (by omega)]
    rfl
  have p2 : part sch st' sch[i].1 = st'[i] := by
    rw [part_at hs.nd (by omega), List.getD_eq_getElem?_getD, List.getElem?_eq_getElem (by omega)]
    rfl
  rw [p1, List.filter_map]
  congr 1
  refine List.filter_congr fun r _ => ?_
  show (!decide (r ∈ part sch st' sch[i].1)) = _
  rw [p2]
/-- takes and puts, table by table -/
def tksF (q : (Str × Nat) × List Row × List Row) : List Act := (q.2.1.filter fun r => !decide (r ∈ q.2.2)).map fun r => tk (q.1.1, r)
def ptsF (q : (Str × Nat) × List Row × List Row) : List Act := (q.2.2.filter fun r => !decide (r ∈ q.2.1)).map fun r => pt (q.1.1, r)
theorem back_tk (hs : SchOk sch) (s : StoOk sch st) (s' : StoOk sch st') : (sch.zip (st.zip st')).flatMap tksF = (minus sch st st').map tk := by
  rw [minus_flat hs s s', List.map_flatMap]
  refine flatMap_cg fun p _ => ?_
  rw [List.map_map]
  rfl
theorem zip_swap {α β : Type} : ∀ (xs : List α) (ys : List β), xs.zip ys = (ys.zip xs).map fun p => (p.2, p.1)
  | [], ys => by simp
  | _ :: _, [] => rfl
  | x :: xs, y :: ys => by rw [List.zip_cons_cons, List.zip_cons_cons, List.map_cons, zip_swap]
theorem back_pt (hs : SchOk sch) (s : StoOk sch st) (s' : StoOk sch st') : (sch.zip (st.zip st')).flatMap ptsF = (minus sch st' st).map pt := by
  rw [minus_flat hs s' s, List.map_flatMap, zip_swap st st', List.zip_map_right, List.flatMap_map]
  refine flatMap_cg fun p _ => ?_
  rw [List.map_map]
  rfl
theorem e_law_back (hs : SchOk sch) (s : StoOk sch st) (s' : StoOk sch st') : F__law_back [Enc.e sch, Enc.e st, Enc.e st'] M = some ((Enc.e (backA sch st' st), false), M) := by
  have e0 : D.tup [] = Enc.e ([] : List Act) := rfl
  have h4 := hs.l4
  have l3 : (3 : Nat) ≤ LIM := lim40 (by decide)
  have l2 : (2 : Nat) ≤ LIM := lim40 (by decide)
  have l0 : (0 : Nat) ≤ LIM := lim40 (by decide)
  have bnd : ∀ p ∈ sch.zip (st.zip st'), List.length p.2.1 ≤ 40 ∧ List.length p.2.2 ≤ 40 := fun p hp => by
    obtain ⟨i, hi, q⟩ := List.mem_iff_getElem.mp hp
    rw [List.length_zip, List.length_zip] at hi
    rw [List.getElem_zip, List.getElem_zip] at q
    subst q
    have ht : sch[i].1 ∈ names sch := List.mem_map_of_mem (List.getElem_mem (by omega))
    have b1 := (s.ok _ ht).1
    have b2 := (s'.ok _ ht).1
    rw [part_at hs.nd (by omega), List.getD_eq_getElem?_getD, List.getElem?_eq_getElem (by omega)] at b1 b2
    exact ⟨b1, b2⟩
  have L : forL [.fz (Enc.e sch), .fz (Enc.e st), .fz (Enc.e st'), .fz (Enc.e ([] : List Act)), .fz (Enc.e ([] : List Act)), .no, .no, .no, .no] (.tp [.nm 5, .nm 6, .nm 7]) L__law_back_1 ((sch.zip (st.zip st')).map fun p => .tup [Enc.e p.1, Enc.e p.2.1, Enc.e p.2.2]) [.fz (Enc.e sch), .fz (Enc.e st), .fz (Enc.e st'), .fz (Enc.e ([] : List Act)), .fz (Enc.e ([] : List Act)), .no, .no, .no, .no] M
      = some (.nx, [.fz (Enc.e sch), .fz (Enc.e st), .fz (Enc.e st'), .fz (Enc.e ((sch.zip (st.zip st')).flatMap tksF)), .fz (Enc.e ((sch.zip (st.zip st')).flatMap ptsF)), .no, .no, .no, .no], M) := by
    refine forL_pre (fun pre : List ((Str × Nat) × List Row × List Row) => [.fz (Enc.e sch), .fz (Enc.e st), .fz (Enc.e st'), .fz (Enc.e (pre.flatMap tksF)), .fz (Enc.e (pre.flatMap ptsF)), .no, .no, .no, .no]) rfl fun pre p post e => ?_
    obtain ⟨b1, b2⟩ := bnd p (by rw [e]; simp)
    have hp : pre.length ≤ 4 := by
      have w := congrArg List.length e
      rw [List.length_append, List.length_cons, List.length_zip] at w
      omega
    have bp : ∀ q ∈ pre, (tksF q).length ≤ 40 ∧ (ptsF q).length ≤ 40 := fun q hq => by
      obtain ⟨c1, c2⟩ := bnd q (by rw [e]; simp [hq])
      unfold tksF ptsF
      rw [List.length_map, List.length_map]
      exact ⟨Nat.le_trans (List.length_filter_le _ _) c1, Nat.le_trans (List.length_filter_le _ _) c2⟩
    have f1 := flatMap_le (f := tksF) (n := 40) (xs := pre) fun q hq => (bp q hq).1
    have f2 := flatMap_le (f := ptsF) (n := 40) (xs := pre) fun q hq => (bp q hq).2
    have g1 : (tksF p).length ≤ 40 := by unfold tksF; rw [List.length_map]; exact Nat.le_trans (List.length_filter_le _ _) b1
    have g2 : (ptsF p).length ≤ 40 := by unfold ptsF; rw [List.length_map]; exact Nat.le_trans (List.length_filter_le _ _) b2
    have hm : pre.length * 40 ≤ 160 := by omega
    have add1 := E_add (xs := pre.flatMap tksF) (ys := tksF p) (lim40 (by omega))
    have add2 := E_add (xs := pre.flatMap ptsF) (ys := ptsF p) (lim40 (by omega))
    have n1 := lim40 (n := (tksF p).length) (by omega)
    have n2 := lim40 (n := (ptsF p).length) (by omega)
    have t1 : (p.2.1.filter fun r => !decide (r ∈ p.2.2)).map (fun r => D.tup [.str "take", .str p.1.1, Enc.e r]) = (tksF p).map Enc.e := by
      unfold tksF
      rw [List.map_map]
      rfl
    have t2 : (p.2.2.filter fun r => !decide (r ∈ p.2.1)).map (fun r => D.tup [.str "put", .str p.1.1, Enc.e r]) = (ptsF p).map Enc.e := by
      unfold ptsF
      rw [List.map_map]
      rfl
    rw [List.flatMap_append, List.flatMap_append, List.flatMap_singleton, List.flatMap_singleton]
    have C1 : ∀ (x y : D) (M : List MO), compL [.fz (Enc.e sch), .fz (Enc.e st), .fz (Enc.e st'), .fz x, .fz y, .fz (Enc.e p.1), .fz (Enc.e p.2.1), .fz (Enc.e p.2.2), .no] (.nm 8) (tbB (eFz (eOp (dIn true) (eVar 8) (eVar 7)))) (eFz (eTup (eCons (eCst (.str "take")) (eCons (eFz (eIxM (eVar 5) (eCst (.int 0)))) (eCons (eVar 8) (eNil)))))) (p.2.1.map Enc.e) M = some ((tksF p).map Enc.e, M) := fun x y M => by
      rw [← t1]
      have hd : Enc.dp Row ≤ 60 := by decide
      simp [compL_map, stepC, kC1, l3, hd]
    have C2 : ∀ (x y : D) (M : List MO), compL [.fz (Enc.e sch), .fz (Enc.e st), .fz (Enc.e st'), .fz x, .fz y, .fz (Enc.e p.1), .fz (Enc.e p.2.1), .fz (Enc.e p.2.2), .no] (.nm 8) (tbB (eFz (eOp (dIn true) (eVar 8) (eVar 6)))) (eFz (eTup (eCons (eCst (.str "put")) (eCons (eFz (eIxM (eVar 5) (eCst (.int 0)))) (eCons (eVar 8) (eNil)))))) (p.2.2.map Enc.e) M = some ((ptsF p).map Enc.e, M) := fun x y M => by
      rw [← t2]
      have hd : Enc.dp Row ≤ 60 := by decide
      simp [compL_map, stepC, kC1, l3, hd]
    generalize pre.flatMap tksF = u at add1
    generalize pre.flatMap ptsF = v at add2
    generalize tksF p = u' at add1 n1 C1
    generalize ptsF p = v' at add2 n2 C2
    have k1 : D.tup (u'.map Enc.e) = Enc.e u' := rfl
    have k2 : D.tup (v'.map Enc.e) = Enc.e v' := rfl
    simp [stepL, L__law_back_1, C1, C2, n1, n2, k1, k2, add1, add2]
  rw [back_tk hs s s', back_pt hs s s'] at L
  have hz : zip3D (sch.map Enc.e) (st.map Enc.e) (st'.map Enc.e) = (sch.zip (st.zip st')).map fun p => .tup [Enc.e p.1, Enc.e p.2.1, Enc.e p.2.2] := zip3_map _ _ _ _ _ _
  have ml := minus_len (st' := st') hs s
  have ml' := minus_len (st' := st) hs s'
  have add := E_add (xs := (minus sch st st').map tk) (ys := (minus sch st' st).map pt) (lim40 (by rw [List.length_map, List.length_map]; omega))
  unfold backA
  generalize (minus sch st st').map tk = u at L add
  generalize (minus sch st' st).map pt = v at L add
  simp [F__law_back, v_mkFn, B__law_back, e0, hz, L, l2, l0, add]
end
/-- drawn actions -/
theorem law_actions {n k most : Nat} {b : Int} {sch : Sch} {M : List MO} (hs : SchOk sch) (hb : 0 < b) (hb2 : b ≤ 10) (hm : most ≤ 20) (h : DOk n (k + 200) M) :
    ∃ (as : List Act) (M' : List MO), F__law_actions [.obj n, Enc.e sch, .int b, .int (most : Nat)] M = some ((Enc.e as, false), M') ∧ ActsOk sch as ∧ as.length ≤ most ∧ DOk n k M' ∧ M'.length = M.length := by
  obtain ⟨many, M1, e1, hmany, h1, l1⟩ := rollN (k := k + 199) (total := most + 1) (h.mono (by omega)) (by omega) (by omega)
  have e1' : F__law_roll [.obj n, .int ((most : Int) + 1)] M = some ((.int (many : Nat), false), M1) := e1
  have hne : sch ≠ [] := fun e => by have := hs.l1; rw [e] at this; simp at this
  have L := forL_inv (e0 := [.fz (.obj n), .fz (Enc.e sch), .fz (.int b), .fz (.int (most : Nat)), .fz (Enc.e ([] : List Act)), .no, .no, .no]) (env := [.fz (.obj n), .fz (Enc.e sch), .fz (.int b), .fz (.int (most : Nat)), .fz (Enc.e ([] : List Act)), .no, .no, .no]) (t := .nm 5) (body := L__law_actions_1) (g := fun i : Nat => D.int (0 + (i : Int))) (xs := List.range many) (M := M1)
    (fun pre env M' => ∃ as : List Act, env = [.fz (.obj n), .fz (Enc.e sch), .fz (.int b), .fz (.int (most : Nat)), .fz (Enc.e as), .no, .no, .no] ∧ as.length = pre.length ∧ ActsOk sch as ∧ DOk n (k + 6 * (many - pre.length)) M' ∧ M'.length = M.length) (fun pre a post env M2 he ⟨as, hE, hl, ha, hD, hM⟩ => by
      subst hE
      have hp : pre.length + 1 ≤ many := by
        have z := congrArg List.length he
        simp at z
        omega
      obtain ⟨p, M3, e3, hp3, h3, l3⟩ := pick (xs := sch) (k := k + 6 * (many - (pre.length + 1)) + 5) (hD.mono (by omega)) hne (by have := hs.l4; omega)
      have hvl : (["put", "take"] : List Str) ≠ [] := by simp
      obtain ⟨v, M4, e4, hv, h4, l4⟩ := pick (xs := (["put", "take"] : List Str)) (k := k + 6 * (many - (pre.length + 1)) + 4) h3 hvl (by simp)
      have hw := hs.wid p hp3
      obtain ⟨r, M5, e5, hr, h5, l5⟩ := law_row (w := p.2) (k := k + 6 * (many - (pre.length + 1))) hb (by omega) (by omega) (h4.mono (by omega))
      have ht : p.1 ∈ names sch := List.mem_map_of_mem hp3
      have hv' : v = "put" ∨ v = "take" := by simpa using hv
      have ok : ActOk sch ⟨v, p.1, r⟩ := ⟨hv', ht, isRow_of (by rw [hr.1, width_mem hs.nd hp3]) fun c hc => by have := hr.2 c hc; omega⟩
      have add := E_add (xs := as) (ys := [(⟨v, p.1, r⟩ : Act)]) (lim40 (by simp; omega))
      have ev : D.lst [.str "put", .str "take"] = eL (["put", "take"] : List Str) := rfl
      have ea : D.tup [D.tup [.str v, .str p.1, Enc.e r]] = Enc.e [(⟨v, p.1, r⟩ : Act)] := rfl
      have n2 : (2 : Nat) ≤ LIM := lim40 (by decide)
      have n3 : (3 : Nat) ≤ LIM := lim40 (by decide)
      have n1 : (1 : Nat) ≤ LIM := lim40 (by decide)
      refine ⟨[.fz (.obj n), .fz (Enc.e sch), .fz (.int b), .fz (.int (most : Nat)), .fz (Enc.e (as ++ [⟨v, p.1, r⟩])), .no, .no, .no], M5, ?_, as ++ [⟨v, p.1, r⟩], rfl, by simp [hl], acts_app ha fun x hx => by rw [List.mem_singleton.mp hx]; exact ok, by simpa using h5, by rw [l5, l4, l3, hM]⟩
      rw [e_str] at e4
      simp [stepL, L__law_actions_1, e3, ev, e4, e5, ea, add, n1, n2, n3]) ⟨[], rfl, rfl, (fun _ h => by cases h), h1.mono (by simp; omega), l1⟩
  obtain ⟨env', M', e, as, rfl, hl, ha, hD, hM⟩ := L
  rw [List.length_range] at hl
  refine ⟨as, M', ?_, ha, by omega, hD.mono (by omega), hM⟩
  have e0 : D.tup [] = Enc.e ([] : List Act) := rfl
  have hr : rng62 (many : Int) = true := by
    unfold rng62
    rw [decide_eq_true_eq]
    omega
  have e' : forL [.fz (.obj n), .fz (Enc.e sch), .fz (.int b), .fz (.int (most : Nat)), .fz (Enc.e ([] : List Act)), .no, .no, .no] (.nm 5) L__law_actions_1 (rints 0 many) [.fz (.obj n), .fz (Enc.e sch), .fz (.int b), .fz (.int (most : Nat)), .fz (Enc.e ([] : List Act)), .no, .no, .no] M1 = some (.nx, [.fz (.obj n), .fz (Enc.e sch), .fz (.int b), .fz (.int (most : Nat)), .fz (Enc.e as), .no, .no, .no], M') := e
  simp [F__law_actions, v_mkFn, B__law_actions, e0, e1', hr, e', show (0 : Nat) ≤ LIM from lim40 (by decide)]
end LW

set_option Elab.async false
set_option linter.all false
set_option maxRecDepth 100000
/-! bodies -/
namespace LW
open PySem PySem.Spec L2 R
def B__law_case : ES := sSeq (sPre [] (sSet 1 (eOld (eFz (eFn F__law_schema (eCons (eVar 0) (eNil))))))) (sSeq (sPre [] (sPar3 2 3 4 (eOld (eFz (eFn F__law_store (eCons (eVar 0) (eCons (eVar 1) (eCons (eFz (eOld (eCst (.int 4)))) (eCons (eFz (eOld (eCst (.int 3)))) (eNil)))))))) (eOld (eFz (eFn F__law_actions (eCons (eVar 0) (eCons (eVar 1) (eCons (eFz (eOld (eCst (.int 3)))) (eCons (eFz (eOld (eCst (.int 4)))) (eNil)))))))) (eOld (eFz (eFn F__law_actions (eCons (eVar 0) (eCons (eVar 1) (eCons (eFz (eOld (eCst (.int 3)))) (eCons (eFz (eOld (eCst (.int 4)))) (eNil)))))))))) (sSeq (sPre [] (sPar 5 6 (eOld (eFz (eFn F__law_run (eCons (eVar 1) (eCons (eVar 2) (eCons (eVar 3) (eNil))))))) (eOld (eFz (eFn F__law_run (eCons (eVar 1) (eCons (eVar 2) (eCons (eFz (eOp dAdd (eVar 3) (eVar 4))) (eNil))))))))) (sSeq (sPre [] (sIf (eOr (tbB (eFz (eOp dNe (eFz (eFn F_done (eCons (eVar 1) (eCons (eVar 2) (eCons (eVar 3) (eNil)))))) (eVar 5)))) (eOr (tbB (eFz (eOp dNe (eFz (eFn F_done (eCons (eVar 1) (eCons (eVar 5) (eCons (eVar 4) (eNil)))))) (eVar 6)))) (tbB (eFz (eOp dNe (eFz (eFn F_done (eCons (eVar 1) (eCons (eVar 2) (eCons (eFz (eOp dAdd (eVar 3) (eVar 4))) (eNil)))))) (eVar 6)))))) (sPre [] (sRet (eOld (eCst (.bl false))))) (sNx))) (sSeq (sPre [] (sIf (eOr (tbB (eFz (eOp dNe (eFz (eFn F_settled (eCons (eVar 1) (eCons (eFz (eOp dAdd (eVar 3) (eVar 4))) (eNil))))) (eFz (eFn F__law_last (eCons (eFz (eOp dAdd (eVar 3) (eVar 4))) (eNil))))))) (tbB (eFz (eOp dNe (eFz (eFn F_at_once (eCons (eVar 1) (eCons (eFz (eTup (eCons (eVar 3) (eCons (eVar 4) (eNil))))) (eNil))))) (eFz (eFn F__law_last (eCons (eFz (eOp dAdd (eVar 3) (eVar 4))) (eNil)))))))) (sPre [] (sRet (eOld (eCst (.bl false))))) (sNx))) (sSeq (sPre [] (sIf (eOr (tbB (eFz (eOp dNe (eFz (eFn F_done (eCons (eVar 1) (eCons (eVar 2) (eCons (eFz (eFn F_settled (eCons (eVar 1) (eCons (eFz (eOp dAdd (eVar 3) (eVar 4))) (eNil))))) (eNil)))))) (eVar 6)))) (tbB (eFz (eOp dNe (eFz (eFn F_settled (eCons (eVar 1) (eCons (eFz (eFn F_settled (eCons (eVar 1) (eCons (eVar 3) (eNil))))) (eNil))))) (eFz (eFn F__law_last (eCons (eVar 3) (eNil)))))))) (sPre [] (sRet (eOld (eCst (.bl false))))) (sNx))) (sSeq (sPre [] (sIf (tbB (eFz (eOp dNe (eFz (eFn F_net (eCons (eVar 1) (eCons (eVar 2) (eCons (eFz (eOp dAdd (eVar 3) (eVar 4))) (eNil)))))) (eFz (eFn F_difference (eCons (eVar 1) (eCons (eVar 2) (eCons (eVar 6) (eNil))))))))) (sPre [] (sRet (eOld (eCst (.bl false))))) (sNx))) (sSeq (sPre [] (sTup (.tp [.nm 7, .nm 8]) (eFz (eFn F_net (eCons (eVar 1) (eCons (eVar 2) (eCons (eFz (eOp dAdd (eVar 3) (eVar 4))) (eNil)))))))) (sSeq (sPre [] (sIf (eOr (tbB (eFz (eOp dNe (eFz (eFn F_changed (eCons (eVar 1) (eCons (eVar 2) (eCons (eVar 7) (eCons (eVar 8) (eNil))))))) (eVar 6)))) (tbB (eFz (eOp dNe (eFz (eFn F_is_idle (eCons (eVar 1) (eCons (eVar 2) (eCons (eFz (eOp dAdd (eVar 3) (eVar 4))) (eNil)))))) (eFz (eOp dEq (eVar 2) (eVar 6))))))) (sPre [] (sRet (eOld (eCst (.bl false))))) (sNx))) (sSeq (sPre [] (sSet 9 (eOld (eFz (eFn F_taking_back (eCons (eVar 1) (eCons (eVar 2) (eCons (eVar 3) (eNil))))))))) (sSeq (sPre [] (sIf (eOr (tbB (eFz (eOp dNe (eFz (eFn F__law_run (eCons (eVar 1) (eCons (eVar 5) (eCons (eVar 9) (eNil)))))) (eVar 2)))) (tbB (eFz (eOp dNe (eFz (eCall dLen (eCons (eVar 9) (eNil)))) (eFz (eCall dSum (eCons (eFz (eComp [10] (iSeq (eFz (eFn F_net (eCons (eVar 1) (eCons (eVar 2) (eCons (eVar 3) (eNil))))))) (.nm 10) eYes (eFz (eCall dLen (eCons (eVar 10) (eNil)))))) (eNil)))))))) (sPre [] (sRet (eOld (eCst (.bl false))))) (sNx))) (sSeq (sPre [] (sIf (eOr (tbB (eFz (eOp dIsNotB (eFz (eFn F_is_idle (eCons (eVar 1) (eCons (eVar 2) (eCons (eFz (eOp dAdd (eVar 3) (eVar 9))) (eNil)))))) (eFz (eOld (eCst (.bl true))))))) (tbB (eFz (eOp dNe (eFz (eFn F_taking_back (eCons (eVar 1) (eCons (eVar 5) (eCons (eVar 9) (eNil)))))) (eFz (eFn F__law_back (eCons (eVar 1) (eCons (eVar 2) (eCons (eVar 5) (eNil)))))))))) (sPre [] (sRet (eOld (eCst (.bl false))))) (sNx))) (sSeq (sPre [] (sIf (tbB (eFz (eOp dNe (eFz (eFn F_along (eCons (eVar 1) (eCons (eVar 2) (eCons (eFz (eTup (eCons (eVar 3) (eCons (eVar 4) (eCons (eVar 9) (eNil)))))) (eNil)))))) (eFz (eTup (eCons (eVar 5) (eCons (eVar 6) (eCons (eFz (eFn F__law_run (eCons (eVar 1) (eCons (eVar 6) (eCons (eVar 9) (eNil)))))) (eNil))))))))) (sPre [] (sRet (eOld (eCst (.bl false))))) (sNx))) (sSeq (sPre [] (sSet 11 (eOld (eFz (eTup (eCons (eFz (eOld (eCst (.int 3)))) (eCons (eFz (eOld (eCst (.int 0)))) (eCons (eFz (eOld (eCst (.int 7)))) (eCons (eFz (eOld (eCst (.int 1)))) (eCons (eFz (eOld (eCst (.int 2)))) (eCons (eFz (eOld (eCst (.int 4)))) (eCons (eFz (eOld (eCst (.int 9)))) (eCons (eFz (eOld (eCst (.int 8)))) (eCons (eFz (eOld (eCst (.int 6)))) (eCons (eFz (eOld (eCst (.int 5)))) (eNil)))))))))))))))) (sSeq (sPre [] (sSet 12 (eOld (eFz (eFn F_renamed_store (eCons (eVar 1) (eCons (eVar 2) (eCons (eVar 11) (eNil))))))))) (sPre [] (sRet (eOp dEq (eFz (eFn F_done (eCons (eVar 1) (eCons (eVar 12) (eCons (eFz (eFn F__law_moved (eCons (eFz (eOp dAdd (eVar 3) (eVar 4))) (eCons (eVar 11) (eNil))))) (eNil)))))) (eFz (eFn F_renamed_store (eCons (eVar 1) (eCons (eVar 6) (eCons (eVar 11) (eNil)))))))))))))))))))))))
def F__law_case : Fn := mkFn 13 B__law_case
def L_law_1 : ES := sPre [] (sIf (eNot (tbV (eFz (eFn F__law_case (eCons (eFz (eOld (eLive (eFn F__law_dice (eCons (eVar 0) (eCons (eVar 1) (eNil))))))) (eNil)))))) (sPre [] (sRet (eOld (eCst (.bl false))))) (sNx))
def B_law : ES := sSeq (sPre [] (sFor (iRng (eCons (eFz (eCall dMax2 (eCons (eFz (eOld (eCst (.int 1)))) (eCons (eFz (eCall dMin2 (eCons (eFz (eCall dLen (eCons (eVar 0) (eNil)))) (eCons (eFz (eOld (eCst (.int 6)))) (eNil))))) (eNil))))) (eNil))) (.nm 1) (L_law_1))) (sPre [] (sRet (eOld (eCst (.bl true)))))
def F_law : Fn := mkFn 2 B_law
end LW

set_option Elab.async false
set_option linter.all false
set_option maxRecDepth 100000
set_option maxHeartbeats 4000000
/-! K11f: the case -/
namespace LW
open PySem PySem.Spec L2 R
def ord11 : List Int := [3, 0, 7, 1, 2, 4, 9, 8, 6, 5]
theorem ord11_ok : OrdOk ord11 := ⟨rfl, by decide, by decide⟩
theorem case_ok (n : Nat) (M : List MO) (hD : DOk n 1000000000 M) : ∃ M', F__law_case [.obj n] M = some ((.bl true, false), M') := by
  obtain ⟨sch, M1, e1, sm, h1, l1⟩ := small_schema (k := 100000) (hD.mono (by decide))
  have hs := sm.ok
  obtain ⟨st, M2, e2, dr, h2, l2⟩ := law_store (k := 90000) (most := 4) (b := 3) hs (by decide) (by decide) (by decide) (h1.mono (by decide))
  obtain ⟨one, M3, e3, ha1, hl1, h3, l3⟩ := law_actions (k := 80000) (most := 4) (b := 3) hs (by decide) (by decide) (by decide) (h2.mono (by decide))
  obtain ⟨two, M4, e4, ha2, hl2, h4, l4⟩ := law_actions (k := 70000) (most := 4) (b := 3) hs (by decide) (by decide) (by decide) (h3.mono (by decide))
  refine ⟨M4, ?_⟩
  have e2' : F__law_store [.obj n, Enc.e sch, .int 4, .int 3] M1 = some ((Enc.e st, false), M2) := e2
  have e3' : F__law_actions [.obj n, Enc.e sch, .int 3, .int 4] M2 = some ((Enc.e one, false), M3) := e3
  have e4' : F__law_actions [.obj n, Enc.e sch, .int 3, .int 4] M3 = some ((Enc.e two, false), M4) := e4
  have s := dr.ok
  have z := dr.sz
  obtain ⟨both, hboth⟩ : ∃ b, b = one ++ two := ⟨_, rfl⟩
  have hab : ActsOk sch both := hboth ▸ acts_app ha1 ha2
  have hlb : both.length = one.length + two.length := by rw [hboth, List.length_append]
  have addB : dAdd (Enc.e one) (Enc.e two) = some (Enc.e both, false) := by rw [hboth]; exact E_add (lim40 (by omega))
  obtain ⟨mid, hmid⟩ : ∃ m, m = runs sch st one := ⟨_, rfl⟩
  obtain ⟨fin', hfin⟩ : ∃ m, m = runs sch st both := ⟨_, rfl⟩
  obtain ⟨sM, zM⟩ := runs_ok s ha1 z (by omega)
  rw [← hmid] at sM zM
  have hmf : runs sch mid two = fin' := by rw [hfin, hboth, runs_app, hmid]
  obtain ⟨sF, zF⟩ := runs_ok s hab z (by omega)
  rw [← hfin] at sF zF
  have hal := acts_lasts hab
  have hll := lasts_len (as := both)
  have hal1 := acts_lasts ha1
  have hll1 := lasts_len (as := one)
  have hrl : runs sch st (lasts both) = fin' := by rw [runs_lasts hs s hab z (by omega), hfin]
  have r1 : ∀ M, F__law_run [Enc.e sch, Enc.e st, Enc.e one] M = some ((Enc.e mid, false), M) := fun M => by rw [e_law_run hs s ha1 z (by omega), hmid]
  have r2 : ∀ M, F__law_run [Enc.e sch, Enc.e st, Enc.e both] M = some ((Enc.e fin', false), M) := fun M => by rw [e_law_run hs s hab z (by omega), hfin]
  have d1 : ∀ M, F_done [Enc.e sch, Enc.e st, Enc.e one] M = some ((Enc.e mid, false), M) := fun M => by rw [e_done hs s ha1 (by omega) z (by omega), hmid]
  have d2 : ∀ M, F_done [Enc.e sch, Enc.e mid, Enc.e two] M = some ((Enc.e fin', false), M) := fun M => by rw [e_done hs sM ha2 (by omega) zM (by omega), hmf]
  have d3 : ∀ M, F_done [Enc.e sch, Enc.e st, Enc.e both] M = some ((Enc.e fin', false), M) := fun M => by rw [e_done hs s hab (by omega) z (by omega), hfin]
  have d4 : ∀ M, F_done [Enc.e sch, Enc.e st, Enc.e (lasts both)] M = some ((Enc.e fin', false), M) := fun M => by rw [e_done hs s hal (by omega) z (by omega), hrl]
  have s1 : ∀ M, F_settled [Enc.e sch, Enc.e both] M = some ((Enc.e (lasts both), false), M) := fun M => e_settled hs hab (by omega)
  have s2 : ∀ M, F_settled [Enc.e sch, Enc.e one] M = some ((Enc.e (lasts one), false), M) := fun M => e_settled hs ha1 (by omega)
  have s3 : ∀ M, F_settled [Enc.e sch, Enc.e (lasts one)] M = some ((Enc.e (lasts one), false), M) := fun M => by rw [e_settled hs hal1 (by omega), lasts_id lasts_nd]
  have t1 : ∀ M, F__law_last [Enc.e both] M = some ((Enc.e (lasts both), false), M) := fun M => e_law_last (by omega)
  have t2 : ∀ M, F__law_last [Enc.e one] M = some ((Enc.e (lasts one), false), M) := fun M => e_law_last (by omega)
  have p2 : D.tup [Enc.e one, Enc.e two] = Enc.e ([one, two] : List (List Act)) := rfl
  have o1 : ∀ M, F_at_once [Enc.e sch, Enc.e ([one, two] : List (List Act))] M = some ((Enc.e (lasts both), false), M) := fun M => by
    have ef : ([one, two] : List (List Act)).flatten = both := by rw [hboth]; simp
    have q := e_at_once (M := M) (ds := [one, two]) hs ⟨by simp, fun d hd => by
      rcases List.mem_cons.mp hd with rfl | hd
      · exact ⟨ha1, hl1⟩
      · rw [List.mem_singleton.mp hd]; exact ⟨ha2, hl2⟩⟩ (by rw [ef]; omega)
    rw [ef] at q
    exact q
  have n1 : ∀ M, F_net [Enc.e sch, Enc.e st, Enc.e both] M = some ((Enc.e (minus sch fin' st, minus sch st fin'), false), M) := fun M => by
    have q := e_net (M := M) hs s hab (by omega) z (by omega)
    unfold nets at q
    rw [← hfin] at q
    exact q
  have n2 : ∀ M, F_net [Enc.e sch, Enc.e st, Enc.e one] M = some ((Enc.e (minus sch mid st, minus sch st mid), false), M) := fun M => by
    have q := e_net (M := M) hs s ha1 (by omega) z (by omega)
    unfold nets at q
    rw [← hmid] at q
    exact q
  have f1 : ∀ M, F_difference [Enc.e sch, Enc.e st, Enc.e fin'] M = some ((Enc.e (minus sch fin' st, minus sch st fin'), false), M) := fun M => e_difference hs s sF
  have c1 : ∀ M, F_changed [Enc.e sch, Enc.e st, Enc.e (minus sch fin' st), Enc.e (minus sch st fin')] M = some ((Enc.e fin', false), M) := fun M => e_changed' hs s sF (fun t ht => by have := z t ht; omega) (fun t ht => by have := zF t ht; omega)
  have i1 : ∀ M, F_is_idle [Enc.e sch, Enc.e st, Enc.e both] M = some ((.bl (decide (st = fin')), false), M) := fun M => by rw [e_is_idle hs s hab (by omega) z (by omega), hfin]
  obtain ⟨back, hback⟩ : ∃ b, b = backA sch st mid := ⟨_, rfl⟩
  have hbl : back.length ≤ one.length := by
    have q := backA_len hs s ha1 z (by omega)
    rw [← hmid] at q
    rw [hback]
    exact q
  have hbo : ActsOk sch back := hback ▸ backA_ok hs s sM
  have hrb : runs sch mid back = st := by
    rw [hback]
    exact runs_back hs s sM zM (by rw [← hback]; omega)
  have k1 : ∀ M, F_taking_back [Enc.e sch, Enc.e st, Enc.e one] M = some ((Enc.e back, false), M) := fun M => by rw [e_taking_back hs s ha1 (by omega) z (by omega), ← hmid, ← hback]
  have r3 : ∀ M, F__law_run [Enc.e sch, Enc.e mid, Enc.e back] M = some ((Enc.e st, false), M) := fun M => by rw [e_law_run hs sM hbo zM (by omega), hrb]
  have hbb : ((minus sch mid st).length : Int) + ((minus sch st mid).length : Int) = (back.length : Int) := by
    rw [hback]
    unfold backA
    simp
  have addC : dAdd (Enc.e one) (Enc.e back) = some (Enc.e (one ++ back), false) := E_add (lim40 (by omega))
  obtain ⟨ob, hob⟩ : ∃ b, b = one ++ back := ⟨_, rfl⟩
  rw [← hob] at addC
  have hobl : ob.length = one.length + back.length := by rw [hob, List.length_append]
  have i2 : ∀ M, F_is_idle [Enc.e sch, Enc.e st, Enc.e ob] M = some ((.bl true, false), M) := fun M => by
    rw [e_is_idle hs s (hob ▸ acts_app ha1 hbo) (by omega) z (by omega), hob, runs_app, ← hmid, hrb]
    simp
  have k2 : ∀ M, F_taking_back [Enc.e sch, Enc.e mid, Enc.e back] M = some ((Enc.e (backA sch mid st), false), M) := fun M => by rw [e_taking_back hs sM hbo (by omega) zM (by omega), hrb]
  have b1 : ∀ M, F__law_back [Enc.e sch, Enc.e st, Enc.e mid] M = some ((Enc.e (backA sch mid st), false), M) := fun M => e_law_back hs s sM
  have r4 : ∀ M, F__law_run [Enc.e sch, Enc.e fin', Enc.e back] M = some ((Enc.e (runs sch fin' back), false), M) := fun M => e_law_run hs sF hbo zF (by omega)
  have p3 : D.tup [Enc.e one, Enc.e two, Enc.e back] = Enc.e ([one, two, back] : List (List Act)) := rfl
  have p4 : D.tup [Enc.e mid, Enc.e fin', Enc.e (runs sch fin' back)] = Enc.e ([mid, fin', runs sch fin' back] : List Sto) := rfl
  have a1 : ∀ M, F_along [Enc.e sch, Enc.e st, Enc.e ([one, two, back] : List (List Act))] M = some ((Enc.e ([mid, fin', runs sch fin' back] : List Sto), false), M) := fun M => by
    have q := e_along (M := M) (ds := [one, two, back]) hs s ⟨by simp, fun d hd => by
      rcases List.mem_cons.mp hd with rfl | hd
      · exact ⟨ha1, hl1⟩
      · rcases List.mem_cons.mp hd with rfl | hd
        · exact ⟨ha2, hl2⟩
        · rw [List.mem_singleton.mp hd]; exact ⟨hbo, by omega⟩⟩ z (by simp; omega)
    unfold alongs alongs alongs alongs at q
    rw [← hmid, hmf] at q
    exact q
  have po : D.tup [.int 3, .int 0, .int 7, .int 1, .int 2, .int 4, .int 9, .int 8, .int 6, .int 5] = Enc.e ord11 := rfl
  obtain ⟨sV, zV⟩ := mvS_ok ord11_ok s z
  have m1 : ∀ M, F_renamed_store [Enc.e sch, Enc.e st, Enc.e ord11] M = some ((Enc.e (mvS ord11 st), false), M) := fun M => e_renamed_store hs s ord11_ok
  have m2 : ∀ M, F_renamed_store [Enc.e sch, Enc.e fin', Enc.e ord11] M = some ((Enc.e (mvS ord11 fin'), false), M) := fun M => e_renamed_store hs sF ord11_ok
  have m3 : ∀ M, F__law_moved [Enc.e both, Enc.e ord11] M = some ((Enc.e (both.map (mvA ord11)), false), M) := fun M => e_law_moved ord11_ok (by omega) fun a ha => by
    have q := isRow_iff.mp (hab a ha).row
    have w := hs.w (hab a ha).tab
    exact ⟨by omega, q.2⟩
  have m4 : ∀ M, F_done [Enc.e sch, Enc.e (mvS ord11 st), Enc.e (both.map (mvA ord11))] M = some ((Enc.e (mvS ord11 fin'), false), M) := fun M => by
    rw [e_done hs sV (fun b hb => by
      obtain ⟨a, h1, rfl⟩ := List.mem_map.mp hb
      exact mvA_ok ord11_ok (hab a h1)) (by rw [List.length_map]; omega) zV (by rw [List.length_map]; omega), runs_mv hs ord11_ok s hab z (by omega), hfin]
  have q0 : (10 : Nat) ≤ LIM := lim40 (by decide)
  have q2 : (2 : Nat) ≤ LIM := lim40 (by decide)
  have q3 : (3 : Nat) ≤ LIM := lim40 (by decide)
  generalize lasts both = lb at *
  generalize lasts one = lo at *
  generalize minus sch fin' st = w1 at *
  generalize minus sch st fin' = w2 at *
  generalize minus sch mid st = w3 at *
  generalize minus sch st mid = w4 at *
  generalize backA sch mid st = w5 at *
  generalize runs sch fin' back = w6 at *
  generalize both.map (mvA ord11) = w7 at *
  generalize mvS ord11 st = w8 at *
  generalize mvS ord11 fin' = w9 at *
  generalize ord11 = oo at *
  clear hD h1 h2 h3 h4 e2 e3 e4
  simp [F__law_case, v_mkFn, B__law_case, e1, e2', e3', e4', r1, r2, addB, d1, d2, d3, d4, s1, s2, s3, t1, t2, p2, o1, n1, n2, f1, c1, i1, k1, r3, addC, i2, k2, b1, r4, p3, p4, a1, po, m1, m2, m3, m4, q0, q2, q3, P_walk, P_seq, compL_cons, stepC, kC1, w_sum2, hbb]
end LW

set_option Elab.async false
set_option linter.all false
set_option maxRecDepth 100000
set_option maxHeartbeats 1000000
namespace LW
open PySem PySem.Spec L2 R
/-- the law, by its cases -/
theorem law_ok (hc : ∀ (n : Nat) (M : List MO), DOk n 1000000000 M → ∃ M', F__law_case [.obj n] M = some ((.bl true, false), M')) (ns : List Int) (hn : ns.length ≤ 63) : ∃ M', F_law [.scr (dI ns)] [] = some ((.bl true, false), M') := by
  have step : ∀ (pre : List Nat) (a : Nat) (post : List Nat) (env : R.Env) (M : List MO), List.range (max 1 (min ns.length 6)) = pre ++ a :: post → env = [.fz (.scr (dI ns)), .no] →
      ∃ env' M', stepL [.fz (.scr (dI ns)), .no] (.nm 1) L_law_1 (.int (a : Int)) env M = some (.nx, env', M') ∧ env' = [.fz (.scr (dI ns)), .no] := by
    intro pre a post env M he hE
    subst hE
    have ha : a < 64 := by
      have : a ∈ List.range (max 1 (min ns.length 6)) := by rw [he]; simp
      rw [List.mem_range] at this
      omega
    obtain ⟨x, y, hd, h1, h2, h3⟩ := dice (M := M) (script := ns) ha
    obtain ⟨M', hM⟩ := hc M.length (M ++ [.lst [.int x, .int y, .int 0]]) ⟨x, y, 0, by simp, h1, h2, h3, by decide, by decide⟩
    refine ⟨[.fz (.scr (dI ns)), .no], M', ?_, rfl⟩
    generalize dI ns = sc at hd
    simp [stepL, L_law_1, hd, hM]
  obtain ⟨env', M', e, rfl⟩ := forL_inv (M := []) (g := fun a : Nat => D.int (a : Int)) (I := fun _ env _ => env = [.fz (.scr (dI ns)), .no]) step rfl
  refine ⟨M', ?_⟩
  have el : (dI ns).length = ns.length := by simp
  generalize dI ns = sc at e el
  have er : rints 0 (if (1 : Int) < (if (6 : Int) < ns.length then 6 else (ns.length : Int)) then (if (6 : Int) < ns.length then 6 else (ns.length : Int)) else 1).toNat = (List.range (max 1 (min ns.length 6))).map fun a : Nat => D.int (a : Int) := by
    unfold rints
    simp only [Int.zero_add]
    congr 2
    split <;> split <;> omega
  have hr : rng62 (if (1 : Int) < (if (6 : Int) < ns.length then 6 else (ns.length : Int)) then (if (6 : Int) < ns.length then 6 else (ns.length : Int)) else 1) = true := by
    unfold rng62
    rw [decide_eq_true_eq]
    split <;> split <;> omega
  simp only [F_law, B_law, v_mkFn, v_sPre0, v_sSeq, v_sFor, v_iRng, v_eCons, v_eNil, v_eFzOld, v_eFz, v_eCall, v_eCst, v_eVar, bO_some, List.map_cons, List.map_nil, List.length_cons, List.length_nil, v_kCons1, v_kCons2, v_kCall, v_kFz, v_kR]
  simp [el, w_lenS]
  simp only [er, hr]
  simp [e]

end LW

set_option Elab.async false
set_option linter.all false
set_option maxRecDepth 100000
set_option maxHeartbeats 4000000
/-! the text of the law, compiled -/
namespace LW
open PySem PySem.Spec PyProof.Rows L2 R
def topS (i : Nat) : Stmt := PySem.Challenge.pw_checksenough_k11_whole_deeds_behind_deed.main.body.getD i (.Pass ⟨0, 0, 0, 0⟩)
def cst : List (Str × D) := [("LETTERS", .str "abcdefghijklmnopqrstuvwxyz"), ("MOST_TABLES", .int 4), ("MOST_COLUMNS", .int 4), ("MOST_ROWS", .int 40), ("MOST_DONE", .int 12), ("MOST_DEEDS", .int 6), ("MOST_EACH", .int 4)]
def N_demand : List Str := ["good", "name"]
def T_demand : List (Str × R.Entry) := []
theorem C_demand : cDef N_demand (T_demand) cst [] (topS 6) = some (B_demand) := by kernel_rfl
theorem S_demand : FnScope N_demand ["good", "name"] (defScope (topS 6)) := ⟨rfl, rfl, rfl, by decide +kernel, rfl, by decide +kernel, by decide +kernel⟩
def N_is_in : List Str := ["value", "low", "high"]
def T_is_in : List (Str × R.Entry) := []
theorem C_is_in : cDef N_is_in (T_is_in) cst [] (topS 7) = some (B_is_in) := by kernel_rfl
theorem S_is_in : FnScope N_is_in ["value", "low", "high"] (defScope (topS 7)) := ⟨rfl, rfl, rfl, by decide +kernel, rfl, by decide +kernel, by decide +kernel⟩
def N_is_tuple : List Str := ["value", "low", "high"]
def T_is_tuple : List (Str × R.Entry) := []
theorem C_is_tuple : cDef N_is_tuple (T_is_tuple) cst [] (topS 8) = some (B_is_tuple) := by kernel_rfl
theorem S_is_tuple : FnScope N_is_tuple ["value", "low", "high"] (defScope (topS 8)) := ⟨rfl, rfl, rfl, by decide +kernel, rfl, by decide +kernel, by decide +kernel⟩
def N_is_word : List Str := ["value", "sign"]
def T_is_word : List (Str × R.Entry) := []
theorem C_is_word : cDef N_is_word (T_is_word) cst [] (topS 9) = some (B_is_word) := by kernel_rfl
theorem S_is_word : FnScope N_is_word ["value"] (defScope (topS 9)) := ⟨rfl, rfl, rfl, by decide +kernel, rfl, by decide +kernel, by decide +kernel⟩
def N_is_letter : List Str := ["value"]
def T_is_letter : List (Str × R.Entry) := [("is_word", { F := F_is_word, ar := 1 })]
theorem C_is_letter : cDef N_is_letter (T_is_letter) cst [] (topS 10) = some (B_is_letter) := by kernel_rfl
theorem S_is_letter : FnScope N_is_letter ["value"] (defScope (topS 10)) := ⟨rfl, rfl, rfl, by decide +kernel, rfl, by decide +kernel, by decide +kernel⟩
def N_is_cell : List Str := ["value"]
def T_is_cell : List (Str × R.Entry) := [("is_in", { F := F_is_in, ar := 3 })]
theorem C_is_cell : cDef N_is_cell (T_is_cell) cst [] (topS 11) = some (B_is_cell) := by kernel_rfl
theorem S_is_cell : FnScope N_is_cell ["value"] (defScope (topS 11)) := ⟨rfl, rfl, rfl, by decide +kernel, rfl, by decide +kernel, by decide +kernel⟩
def N_rises : List Str := ["members", "one", "two"]
def T_rises : List (Str × R.Entry) := []
theorem C_rises : cDef N_rises (T_rises) cst [] (topS 12) = some (B_rises) := by kernel_rfl
theorem S_rises : FnScope N_rises ["members"] (defScope (topS 12)) := ⟨rfl, rfl, rfl, by decide +kernel, rfl, by decide +kernel, by decide +kernel⟩
def N_is_table : List Str := ["value"]
def T_is_table : List (Str × R.Entry) := [("is_tuple", { F := F_is_tuple, ar := 3 }), ("is_word", { F := F_is_word, ar := 1 }), ("is_in", { F := F_is_in, ar := 3 })]
theorem C_is_table : cDef N_is_table (T_is_table) cst [] (topS 16) = some (B_is_table) := by kernel_rfl
theorem S_is_table : FnScope N_is_table ["value"] (defScope (topS 16)) := ⟨rfl, rfl, rfl, by decide +kernel, rfl, by decide +kernel, by decide +kernel⟩
def N_is_schema : List Str := ["value", "own", "name", "columns"]
def T_is_schema : List (Str × R.Entry) := [("rises", { F := F_rises, ar := 1 }), ("is_tuple", { F := F_is_tuple, ar := 3 }), ("is_table", { F := F_is_table, ar := 1 })]
theorem C_is_schema : cDef N_is_schema (T_is_schema) cst [] (topS 17) = some (B_is_schema) := by kernel_rfl
theorem S_is_schema : FnScope N_is_schema ["value"] (defScope (topS 17)) := ⟨rfl, rfl, rfl, by decide +kernel, rfl, by decide +kernel, by decide +kernel⟩
def N_demand_schema : List Str := ["schema"]
def T_demand_schema : List (Str × R.Entry) := [("demand", { F := F_demand, ar := 2 }), ("is_schema", { F := F_is_schema, ar := 1 })]
theorem C_demand_schema : cDef N_demand_schema (T_demand_schema) cst [] (topS 18) = some (B_demand_schema) := by kernel_rfl
theorem S_demand_schema : FnScope N_demand_schema ["schema"] (defScope (topS 18)) := ⟨rfl, rfl, rfl, by decide +kernel, rfl, by decide +kernel, by decide +kernel⟩
def N_names_in : List Str := ["schema", "name", "columns"]
def T_names_in : List (Str × R.Entry) := []
theorem C_names_in : cDef N_names_in (T_names_in) cst [] (topS 19) = some (B_names_in) := by kernel_rfl
theorem S_names_in : FnScope N_names_in ["schema"] (defScope (topS 19)) := ⟨rfl, rfl, rfl, by decide +kernel, rfl, by decide +kernel, by decide +kernel⟩
def N_width : List Str := ["schema", "table"]
def T_width : List (Str × R.Entry) := []
theorem C_width : cDef N_width (T_width) cst [] (topS 20) = some (B_width) := by kernel_rfl
theorem S_width : FnScope N_width ["schema", "table"] (defScope (topS 20)) := ⟨rfl, rfl, rfl, by decide +kernel, rfl, by decide +kernel, by decide +kernel⟩
def N_place_in : List Str := ["schema", "table"]
def T_place_in : List (Str × R.Entry) := [("names_in", { F := F_names_in, ar := 1 })]
theorem C_place_in : cDef N_place_in (T_place_in) cst [] (topS 21) = some (B_place_in) := by kernel_rfl
theorem S_place_in : FnScope N_place_in ["schema", "table"] (defScope (topS 21)) := ⟨rfl, rfl, rfl, by decide +kernel, rfl, by decide +kernel, by decide +kernel⟩
def N_is_row_of : List Str := ["schema", "table", "value", "own"]
def T_is_row_of : List (Str × R.Entry) := [("is_tuple", { F := F_is_tuple, ar := 3 }), ("width", { F := F_width, ar := 2 }), ("is_cell", { F := F_is_cell, ar := 1 })]
theorem C_is_row_of : cDef N_is_row_of (T_is_row_of) cst [] (topS 24) = some (B_is_row_of) := by kernel_rfl
theorem S_is_row_of : FnScope N_is_row_of ["schema", "table", "value"] (defScope (topS 24)) := ⟨rfl, rfl, rfl, by decide +kernel, rfl, by decide +kernel, by decide +kernel⟩
def N_is_part : List Str := ["schema", "table", "value", "row"]
def T_is_part : List (Str × R.Entry) := [("rises", { F := F_rises, ar := 1 }), ("is_tuple", { F := F_is_tuple, ar := 3 }), ("is_row_of", { F := F_is_row_of, ar := 3 })]
theorem C_is_part : cDef N_is_part (T_is_part) cst [] (topS 25) = some (B_is_part) := by kernel_rfl
theorem S_is_part : FnScope N_is_part ["schema", "table", "value"] (defScope (topS 25)) := ⟨rfl, rfl, rfl, by decide +kernel, rfl, by decide +kernel, by decide +kernel⟩
def N_is_store : List Str := ["schema", "value", "own", "part"]
def T_is_store : List (Str × R.Entry) := [("demand_schema", { F := F_demand_schema, ar := 1 }), ("is_tuple", { F := F_is_tuple, ar := 3 }), ("is_part", { F := F_is_part, ar := 3 })]
theorem C_is_store : cDef N_is_store (T_is_store) cst [] (topS 26) = some (B_is_store) := by kernel_rfl
theorem S_is_store : FnScope N_is_store ["schema", "value"] (defScope (topS 26)) := ⟨rfl, rfl, rfl, by decide +kernel, rfl, by decide +kernel, by decide +kernel⟩
def N_demand_store : List Str := ["schema", "store", "name"]
def T_demand_store : List (Str × R.Entry) := [("demand", { F := F_demand, ar := 2 }), ("is_store", { F := F_is_store, ar := 2 })]
theorem C_demand_store : cDef N_demand_store (T_demand_store) cst [] (topS 27) = some (B_demand_store) := by kernel_rfl
theorem S_demand_store : FnScope N_demand_store ["schema", "store", "name"] (defScope (topS 27)) := ⟨rfl, rfl, rfl, by decide +kernel, rfl, by decide +kernel, by decide +kernel⟩
def N_part_of : List Str := ["schema", "store", "table"]
def T_part_of : List (Str × R.Entry) := [("place_in", { F := F_place_in, ar := 2 })]
theorem C_part_of : cDef N_part_of (T_part_of) cst [] (topS 28) = some (B_part_of) := by kernel_rfl
theorem S_part_of : FnScope N_part_of ["schema", "store", "table"] (defScope (topS 28)) := ⟨rfl, rfl, rfl, by decide +kernel, rfl, by decide +kernel, by decide +kernel⟩
def N_with_part : List Str := ["schema", "store", "table", "rows", "at"]
def T_with_part : List (Str × R.Entry) := [("place_in", { F := F_place_in, ar := 2 })]
theorem C_with_part : cDef N_with_part (T_with_part) cst [] (topS 29) = some (B_with_part) := by kernel_rfl
theorem S_with_part : FnScope N_with_part ["schema", "store", "table", "rows"] (defScope (topS 29)) := ⟨rfl, rfl, rfl, by decide +kernel, rfl, by decide +kernel, by decide +kernel⟩
def N_put : List Str := ["schema", "store", "table", "row", "own"]
def T_put : List (Str × R.Entry) := [("part_of", { F := F_part_of, ar := 3 }), ("with_part", { F := F_with_part, ar := 4 })]
theorem C_put : cDef N_put (T_put) cst [] (topS 30) = some (B_put) := by kernel_rfl
theorem S_put : FnScope N_put ["schema", "store", "table", "row"] (defScope (topS 30)) := ⟨rfl, rfl, rfl, by decide +kernel, rfl, by decide +kernel, by decide +kernel⟩
def N_take : List Str := ["schema", "store", "table", "row", "own", "other"]
def T_take : List (Str × R.Entry) := [("part_of", { F := F_part_of, ar := 3 }), ("with_part", { F := F_with_part, ar := 4 })]
theorem C_take : cDef N_take (T_take) cst [] (topS 31) = some (B_take) := by kernel_rfl
theorem S_take : FnScope N_take ["schema", "store", "table", "row"] (defScope (topS 31)) := ⟨rfl, rfl, rfl, by decide +kernel, rfl, by decide +kernel, by decide +kernel⟩
def N_listed : List Str := ["schema", "store", "found", "name", "part", "row"]
def T_listed : List (Str × R.Entry) := [("names_in", { F := F_names_in, ar := 1 })]
theorem C_listed : cDef N_listed (T_listed) cst [2] (topS 32) = some (B_listed) := by kernel_rfl
theorem S_listed : FnScope N_listed ["schema", "store"] (defScope (topS 32)) := ⟨rfl, rfl, rfl, by decide +kernel, rfl, by decide +kernel, by decide +kernel⟩
def N_minus : List Str := ["schema", "store", "other", "own"]
def T_minus : List (Str × R.Entry) := [("listed", { F := F_listed, ar := 2 }), ("part_of", { F := F_part_of, ar := 3 })]
theorem C_minus : cDef N_minus (T_minus) cst [] (topS 33) = some (B_minus) := by kernel_rfl
theorem S_minus : FnScope N_minus ["schema", "store", "other"] (defScope (topS 33)) := ⟨rfl, rfl, rfl, by decide +kernel, rfl, by decide +kernel, by decide +kernel⟩
def N_difference : List Str := ["schema", "store", "other"]
def T_difference : List (Str × R.Entry) := [("demand_store", { F := F_demand_store, ar := 3 }), ("minus", { F := F_minus, ar := 3 })]
theorem C_difference : cDef N_difference (T_difference) cst [] (topS 34) = some (B_difference) := by kernel_rfl
theorem S_difference : FnScope N_difference ["schema", "store", "other"] (defScope (topS 34)) := ⟨rfl, rfl, rfl, by decide +kernel, rfl, by decide +kernel, by decide +kernel⟩
def N_are_rows : List Str := ["schema", "value", "own"]
def T_are_rows : List (Str × R.Entry) := [("is_tuple", { F := F_is_tuple, ar := 3 }), ("is_row_of", { F := F_is_row_of, ar := 3 }), ("names_in", { F := F_names_in, ar := 1 })]
theorem C_are_rows : cDef N_are_rows (T_are_rows) cst [] (topS 36) = some (B_are_rows) := by kernel_rfl
theorem S_are_rows : FnScope N_are_rows ["schema", "value"] (defScope (topS 36)) := ⟨rfl, rfl, rfl, by decide +kernel, rfl, by decide +kernel, by decide +kernel⟩
def N_changed : List Str := ["schema", "store", "coming", "going", "own", "table", "row"]
def T_changed : List (Str × R.Entry) := [("demand_store", { F := F_demand_store, ar := 3 }), ("demand", { F := F_demand, ar := 2 }), ("are_rows", { F := F_are_rows, ar := 2 }), ("take", { F := F_take, ar := 4 }), ("put", { F := F_put, ar := 4 })]
theorem C_changed : cDef N_changed (T_changed) cst [] (topS 35) = some (B_changed) := by kernel_rfl
theorem S_changed : FnScope N_changed ["schema", "store", "coming", "going"] (defScope (topS 35)) := ⟨rfl, rfl, rfl, by decide +kernel, rfl, by decide +kernel, by decide +kernel⟩
def N_is_term : List Str := ["value"]
def T_is_term : List (Str × R.Entry) := [("is_cell", { F := F_is_cell, ar := 1 }), ("is_letter", { F := F_is_letter, ar := 1 })]
theorem C_is_term : cDef N_is_term (T_is_term) cst [] (topS 38) = some (B_is_term) := by kernel_rfl
theorem S_is_term : FnScope N_is_term ["value"] (defScope (topS 38)) := ⟨rfl, rfl, rfl, by decide +kernel, rfl, by decide +kernel, by decide +kernel⟩
def N_is_action : List Str := ["schema", "value", "many", "own"]
def T_is_action : List (Str × R.Entry) := [("width", { F := F_width, ar := 2 }), ("is_tuple", { F := F_is_tuple, ar := 3 }), ("names_in", { F := F_names_in, ar := 1 }), ("is_term", { F := F_is_term, ar := 1 })]
theorem C_is_action : cDef N_is_action (T_is_action) cst [] (topS 41) = some (B_is_action) := by kernel_rfl
theorem S_is_action : FnScope N_is_action ["schema", "value"] (defScope (topS 41)) := ⟨rfl, rfl, rfl, by decide +kernel, rfl, by decide +kernel, by decide +kernel⟩
def N_are_actions : List Str := ["schema", "value", "own"]
def T_are_actions : List (Str × R.Entry) := [("is_tuple", { F := F_is_tuple, ar := 3 }), ("is_row_of", { F := F_is_row_of, ar := 3 }), ("is_action", { F := F_is_action, ar := 2 })]
theorem C_are_actions : cDef N_are_actions (T_are_actions) cst [] (topS 42) = some (B_are_actions) := by kernel_rfl
theorem S_are_actions : FnScope N_are_actions ["schema", "value"] (defScope (topS 42)) := ⟨rfl, rfl, rfl, by decide +kernel, rfl, by decide +kernel, by decide +kernel⟩
def N_demand_actions : List Str := ["schema", "actions", "name"]
def T_demand_actions : List (Str × R.Entry) := [("demand_schema", { F := F_demand_schema, ar := 1 }), ("demand", { F := F_demand, ar := 2 }), ("are_actions", { F := F_are_actions, ar := 2 })]
theorem C_demand_actions : cDef N_demand_actions (T_demand_actions) cst [] (topS 43) = some (B_demand_actions) := by kernel_rfl
theorem S_demand_actions : FnScope N_demand_actions ["schema", "actions", "name"] (defScope (topS 43)) := ⟨rfl, rfl, rfl, by decide +kernel, rfl, by decide +kernel, by decide +kernel⟩
def N_run : List Str := ["schema", "store", "actions", "verb", "table", "row"]
def T_run : List (Str × R.Entry) := [("put", { F := F_put, ar := 4 }), ("take", { F := F_take, ar := 4 })]
theorem C_run : cDef N_run (T_run) cst [] (topS 44) = some (B_run) := by kernel_rfl
theorem S_run : FnScope N_run ["schema", "store", "actions"] (defScope (topS 44)) := ⟨rfl, rfl, rfl, by decide +kernel, rfl, by decide +kernel, by decide +kernel⟩
def N_done : List Str := ["schema", "store", "actions"]
def T_done : List (Str × R.Entry) := [("demand_store", { F := F_demand_store, ar := 3 }), ("demand_actions", { F := F_demand_actions, ar := 3 }), ("run", { F := F_run, ar := 3 })]
theorem C_done : cDef N_done (T_done) cst [] (topS 45) = some (B_done) := by kernel_rfl
theorem S_done : FnScope N_done ["schema", "store", "actions"] (defScope (topS 45)) := ⟨rfl, rfl, rfl, by decide +kernel, rfl, by decide +kernel, by decide +kernel⟩
def N_net : List Str := ["schema", "store", "actions", "later"]
def T_net : List (Str × R.Entry) := [("demand_store", { F := F_demand_store, ar := 3 }), ("demand_actions", { F := F_demand_actions, ar := 3 }), ("run", { F := F_run, ar := 3 }), ("minus", { F := F_minus, ar := 3 })]
theorem C_net : cDef N_net (T_net) cst [] (topS 46) = some (B_net) := by kernel_rfl
theorem S_net : FnScope N_net ["schema", "store", "actions"] (defScope (topS 46)) := ⟨rfl, rfl, rfl, by decide +kernel, rfl, by decide +kernel, by decide +kernel⟩
def N_taking_back : List Str := ["schema", "store", "actions", "coming", "going", "found", "table", "row"]
def T_taking_back : List (Str × R.Entry) := [("net", { F := F_net, ar := 3 })]
theorem C_taking_back : cDef N_taking_back (T_taking_back) cst [] (topS 47) = some (B_taking_back) := by kernel_rfl
theorem S_taking_back : FnScope N_taking_back ["schema", "store", "actions"] (defScope (topS 47)) := ⟨rfl, rfl, rfl, by decide +kernel, rfl, by decide +kernel, by decide +kernel⟩
def N_is_idle : List Str := ["schema", "store", "actions"]
def T_is_idle : List (Str × R.Entry) := [("net", { F := F_net, ar := 3 })]
theorem C_is_idle : cDef N_is_idle (T_is_idle) cst [] (topS 48) = some (B_is_idle) := by kernel_rfl
theorem S_is_idle : FnScope N_is_idle ["schema", "store", "actions"] (defScope (topS 48)) := ⟨rfl, rfl, rfl, by decide +kernel, rfl, by decide +kernel, by decide +kernel⟩
def N_settled : List Str := ["schema", "actions", "rows", "own", "place"]
def T_settled : List (Str × R.Entry) := [("demand_actions", { F := F_demand_actions, ar := 3 })]
theorem C_settled : cDef N_settled (T_settled) cst [] (topS 49) = some (B_settled) := by kernel_rfl
theorem S_settled : FnScope N_settled ["schema", "actions"] (defScope (topS 49)) := ⟨rfl, rfl, rfl, by decide +kernel, rfl, by decide +kernel, by decide +kernel⟩
def N_are_deeds : List Str := ["schema", "value", "own"]
def T_are_deeds : List (Str × R.Entry) := [("is_tuple", { F := F_is_tuple, ar := 3 }), ("are_actions", { F := F_are_actions, ar := 2 })]
theorem C_are_deeds : cDef N_are_deeds (T_are_deeds) cst [] (topS 53) = some (B_are_deeds) := by kernel_rfl
theorem S_are_deeds : FnScope N_are_deeds ["schema", "value"] (defScope (topS 53)) := ⟨rfl, rfl, rfl, by decide +kernel, rfl, by decide +kernel, by decide +kernel⟩
def N_demand_deeds : List Str := ["schema", "deeds", "name"]
def T_demand_deeds : List (Str × R.Entry) := [("demand_schema", { F := F_demand_schema, ar := 1 }), ("demand", { F := F_demand, ar := 2 }), ("are_deeds", { F := F_are_deeds, ar := 2 })]
theorem C_demand_deeds : cDef N_demand_deeds (T_demand_deeds) cst [] (topS 54) = some (B_demand_deeds) := by kernel_rfl
theorem S_demand_deeds : FnScope N_demand_deeds ["schema", "deeds", "name"] (defScope (topS 54)) := ⟨rfl, rfl, rfl, by decide +kernel, rfl, by decide +kernel, by decide +kernel⟩
def N_in_line : List Str := ["deeds", "found", "own"]
def T_in_line : List (Str × R.Entry) := []
theorem C_in_line : cDef N_in_line (T_in_line) cst [] (topS 55) = some (B_in_line) := by kernel_rfl
theorem S_in_line : FnScope N_in_line ["deeds"] (defScope (topS 55)) := ⟨rfl, rfl, rfl, by decide +kernel, rfl, by decide +kernel, by decide +kernel⟩
def N_last_ones : List Str := ["actions", "rows", "own", "place"]
def T_last_ones : List (Str × R.Entry) := []
theorem C_last_ones : cDef N_last_ones (T_last_ones) cst [] (topS 56) = some (B_last_ones) := by kernel_rfl
theorem S_last_ones : FnScope N_last_ones ["actions"] (defScope (topS 56)) := ⟨rfl, rfl, rfl, by decide +kernel, rfl, by decide +kernel, by decide +kernel⟩
def N_stores_along : List Str := ["schema", "store", "deeds", "found", "own"]
def T_stores_along : List (Str × R.Entry) := [("run", { F := F_run, ar := 3 })]
theorem C_stores_along : cDef N_stores_along (T_stores_along) cst [3] (topS 57) = some (B_stores_along) := by kernel_rfl
theorem S_stores_along : FnScope N_stores_along ["schema", "store", "deeds"] (defScope (topS 57)) := ⟨rfl, rfl, rfl, by decide +kernel, rfl, by decide +kernel, by decide +kernel⟩
def N_along : List Str := ["schema", "store", "deeds"]
def T_along : List (Str × R.Entry) := [("demand_store", { F := F_demand_store, ar := 3 }), ("demand_deeds", { F := F_demand_deeds, ar := 3 }), ("stores_along", { F := F_stores_along, ar := 3 })]
theorem C_along : cDef N_along (T_along) cst [] (topS 58) = some (B_along) := by kernel_rfl
theorem S_along : FnScope N_along ["schema", "store", "deeds"] (defScope (topS 58)) := ⟨rfl, rfl, rfl, by decide +kernel, rfl, by decide +kernel, by decide +kernel⟩
def N_at_once : List Str := ["schema", "deeds", "found"]
def T_at_once : List (Str × R.Entry) := [("demand_deeds", { F := F_demand_deeds, ar := 3 }), ("last_ones", { F := F_last_ones, ar := 1 }), ("in_line", { F := F_in_line, ar := 1 })]
theorem C_at_once : cDef N_at_once (T_at_once) cst [] (topS 59) = some (B_at_once) := by kernel_rfl
theorem S_at_once : FnScope N_at_once ["schema", "deeds"] (defScope (topS 59)) := ⟨rfl, rfl, rfl, by decide +kernel, rfl, by decide +kernel, by decide +kernel⟩
def N_demand_order : List Str := ["order", "good", "own"]
def T_demand_order : List (Str × R.Entry) := [("demand", { F := F_demand, ar := 2 }), ("is_tuple", { F := F_is_tuple, ar := 3 }), ("is_in", { F := F_is_in, ar := 3 })]
theorem C_demand_order : cDef N_demand_order (T_demand_order) cst [] (topS 61) = some (B_demand_order) := by kernel_rfl
theorem S_demand_order : FnScope N_demand_order ["order"] (defScope (topS 61)) := ⟨rfl, rfl, rfl, by decide +kernel, rfl, by decide +kernel, by decide +kernel⟩
def N_term_by : List Str := ["term", "order"]
def T_term_by : List (Str × R.Entry) := []
theorem C_term_by : cDef N_term_by (T_term_by) cst [] (topS 62) = some (B_term_by) := by kernel_rfl
theorem S_term_by : FnScope N_term_by ["term", "order"] (defScope (topS 62)) := ⟨rfl, rfl, rfl, by decide +kernel, rfl, by decide +kernel, by decide +kernel⟩
def N_terms_by : List Str := ["terms", "order", "term"]
def T_terms_by : List (Str × R.Entry) := [("term_by", { F := F_term_by, ar := 2 })]
theorem C_terms_by : cDef N_terms_by (T_terms_by) cst [] (topS 63) = some (B_terms_by) := by kernel_rfl
theorem S_terms_by : FnScope N_terms_by ["terms", "order"] (defScope (topS 63)) := ⟨rfl, rfl, rfl, by decide +kernel, rfl, by decide +kernel, by decide +kernel⟩
def N_renamed_store : List Str := ["schema", "store", "order", "row", "rows"]
def T_renamed_store : List (Str × R.Entry) := [("demand_store", { F := F_demand_store, ar := 3 }), ("demand_order", { F := F_demand_order, ar := 1 }), ("terms_by", { F := F_terms_by, ar := 2 })]
theorem C_renamed_store : cDef N_renamed_store (T_renamed_store) cst [] (topS 64) = some (B_renamed_store) := by kernel_rfl
theorem S_renamed_store : FnScope N_renamed_store ["schema", "store", "order"] (defScope (topS 64)) := ⟨rfl, rfl, rfl, by decide +kernel, rfl, by decide +kernel, by decide +kernel⟩
def N__law_dice : List Str := ["script", "spot", "own", "mixed", "cell"]
def T__law_dice : List (Str × R.Entry) := []
theorem C__law_dice : cDef N__law_dice (T__law_dice) cst [] (topS 66) = some (B__law_dice) := by kernel_rfl
theorem S__law_dice : FnScope N__law_dice ["script", "spot"] (defScope (topS 66)) := ⟨rfl, rfl, rfl, by decide +kernel, rfl, by decide +kernel, by decide +kernel⟩
def N__law_roll : List Str := ["dice", "total", "found"]
def T__law_roll : List (Str × R.Entry) := []
theorem C__law_roll : cDef N__law_roll (T__law_roll) cst [] (topS 67) = some (B__law_roll) := by kernel_rfl
theorem S__law_roll : FnScope N__law_roll ["dice", "total"] (defScope (topS 67)) := ⟨rfl, rfl, rfl, by decide +kernel, rfl, by decide +kernel, by decide +kernel⟩
def N__law_pick : List Str := ["dice", "things"]
def T__law_pick : List (Str × R.Entry) := [("_law_roll", { F := F__law_roll, ar := 2 })]
theorem C__law_pick : cDef N__law_pick (T__law_pick) cst [] (topS 68) = some (B__law_pick) := by kernel_rfl
theorem S__law_pick : FnScope N__law_pick ["dice", "things"] (defScope (topS 68)) := ⟨rfl, rfl, rfl, by decide +kernel, rfl, by decide +kernel, by decide +kernel⟩
def N__law_schema : List Str := ["dice", "found", "name"]
def T__law_schema : List (Str × R.Entry) := [("_law_roll", { F := F__law_roll, ar := 2 }), ("_law_pick", { F := F__law_pick, ar := 2 })]
theorem C__law_schema : cDef N__law_schema (T__law_schema) cst [] (topS 69) = some (B__law_schema) := by kernel_rfl
theorem S__law_schema : FnScope N__law_schema ["dice"] (defScope (topS 69)) := ⟨rfl, rfl, rfl, by decide +kernel, rfl, by decide +kernel, by decide +kernel⟩
def N__law_row : List Str := ["dice", "wide", "cells", "place"]
def T__law_row : List (Str × R.Entry) := [("_law_roll", { F := F__law_roll, ar := 2 })]
theorem C__law_row : cDef N__law_row (T__law_row) cst [] (topS 71) = some (B__law_row) := by kernel_rfl
theorem S__law_row : FnScope N__law_row ["dice", "wide", "cells"] (defScope (topS 71)) := ⟨rfl, rfl, rfl, by decide +kernel, rfl, by decide +kernel, by decide +kernel⟩
def N__law_store : List Str := ["dice", "schema", "most", "cells", "found", "name", "span", "rows", "turn", "row"]
def T__law_store : List (Str × R.Entry) := [("_law_roll", { F := F__law_roll, ar := 2 }), ("_law_row", { F := F__law_row, ar := 3 })]
theorem C__law_store : cDef N__law_store (T__law_store) cst [] (topS 72) = some (B__law_store) := by kernel_rfl
theorem S__law_store : FnScope N__law_store ["dice", "schema", "most", "cells"] (defScope (topS 72)) := ⟨rfl, rfl, rfl, by decide +kernel, rfl, by decide +kernel, by decide +kernel⟩
def N__law_put : List Str := ["schema", "store", "verb", "table", "row", "found", "own", "rows", "other"]
def T__law_put : List (Str × R.Entry) := []
theorem C__law_put : cDef N__law_put (T__law_put) cst [] (topS 74) = some (B__law_put) := by kernel_rfl
theorem S__law_put : FnScope N__law_put ["schema", "store", "verb", "table", "row"] (defScope (topS 74)) := ⟨rfl, rfl, rfl, by decide +kernel, rfl, by decide +kernel, by decide +kernel⟩
def N__law_run : List Str := ["schema", "store", "actions", "verb", "table", "row"]
def T__law_run : List (Str × R.Entry) := [("_law_put", { F := F__law_put, ar := 5 })]
theorem C__law_run : cDef N__law_run (T__law_run) cst [] (topS 75) = some (B__law_run) := by kernel_rfl
theorem S__law_run : FnScope N__law_run ["schema", "store", "actions"] (defScope (topS 75)) := ⟨rfl, rfl, rfl, by decide +kernel, rfl, by decide +kernel, by decide +kernel⟩
def N__law_actions : List Str := ["dice", "schema", "cells", "most", "found", "turn", "table", "span"]
def T__law_actions : List (Str × R.Entry) := [("_law_roll", { F := F__law_roll, ar := 2 }), ("_law_pick", { F := F__law_pick, ar := 2 }), ("_law_row", { F := F__law_row, ar := 3 })]
theorem C__law_actions : cDef N__law_actions (T__law_actions) cst [] (topS 76) = some (B__law_actions) := by kernel_rfl
theorem S__law_actions : FnScope N__law_actions ["dice", "schema", "cells", "most"] (defScope (topS 76)) := ⟨rfl, rfl, rfl, by decide +kernel, rfl, by decide +kernel, by decide +kernel⟩
def N__law_last : List Str := ["actions", "names", "verb", "table", "row", "place", "own"]
def T__law_last : List (Str × R.Entry) := []
theorem C__law_last : cDef N__law_last (T__law_last) cst [] (topS 78) = some (B__law_last) := by kernel_rfl
theorem S__law_last : FnScope N__law_last ["actions"] (defScope (topS 78)) := ⟨rfl, rfl, rfl, by decide +kernel, rfl, by decide +kernel, by decide +kernel⟩
def N__law_moved : List Str := ["actions", "order", "cell", "verb", "table", "row"]
def T__law_moved : List (Str × R.Entry) := []
theorem C__law_moved : cDef N__law_moved (T__law_moved) cst [] (topS 80) = some (B__law_moved) := by kernel_rfl
theorem S__law_moved : FnScope N__law_moved ["actions", "order"] (defScope (topS 80)) := ⟨rfl, rfl, rfl, by decide +kernel, rfl, by decide +kernel, by decide +kernel⟩
def N__law_back : List Str := ["schema", "store", "other", "takes", "puts", "own", "rows", "more", "row"]
def T__law_back : List (Str × R.Entry) := []
theorem C__law_back : cDef N__law_back (T__law_back) cst [] (topS 82) = some (B__law_back) := by kernel_rfl
theorem S__law_back : FnScope N__law_back ["schema", "store", "other"] (defScope (topS 82)) := ⟨rfl, rfl, rfl, by decide +kernel, rfl, by decide +kernel, by decide +kernel⟩
def N__law_case : List Str := ["dice", "schema", "store", "one", "other", "middle", "last", "coming", "going", "back", "own", "order", "moved"]
def T__law_case : List (Str × R.Entry) := [("_law_schema", { F := F__law_schema, ar := 1 }), ("net", { F := F_net, ar := 3 }), ("taking_back", { F := F_taking_back, ar := 3 }), ("renamed_store", { F := F_renamed_store, ar := 3 }), ("_law_store", { F := F__law_store, ar := 4 }), ("_law_actions", { F := F__law_actions, ar := 4 }), ("_law_run", { F := F__law_run, ar := 3 }), ("difference", { F := F_difference, ar := 3 }), ("along", { F := F_along, ar := 3 }), ("done", { F := F_done, ar := 3 }), ("settled", { F := F_settled, ar := 2 }), ("_law_last", { F := F__law_last, ar := 1 }), ("at_once", { F := F_at_once, ar := 2 }), ("changed", { F := F_changed, ar := 4 }), ("is_idle", { F := F_is_idle, ar := 3 }), ("_law_back", { F := F__law_back, ar := 3 }), ("_law_moved", { F := F__law_moved, ar := 2 })]
theorem C__law_case : cDef N__law_case (T__law_case) cst [] (topS 81) = some (B__law_case) := by kernel_rfl
theorem S__law_case : FnScope N__law_case ["dice"] (defScope (topS 81)) := ⟨rfl, rfl, rfl, by decide +kernel, rfl, by decide +kernel, by decide +kernel⟩
def N_law : List Str := ["script", "spot"]
def T_law : List (Str × R.Entry) := [("_law_case", { F := F__law_case, ar := 1 }), ("_law_dice", { F := F__law_dice, ar := 2, lv := true })]
theorem C_law : cDef N_law (T_law) cst [] (topS 83) = some (B_law) := by kernel_rfl
theorem S_law : FnScope N_law ["script"] (defScope (topS 83)) := ⟨rfl, rfl, rfl, by decide +kernel, rfl, by decide +kernel, by decide +kernel⟩
end LW

set_option Elab.async false
set_option linter.all false
set_option maxRecDepth 100000
set_option maxHeartbeats 8000000
namespace LW
open PySem PySem.Spec PyProof.Rows L2 R
theorem all_mk {l : PySem.W.OpenLaw} {w : World} {K : PySem.W.Frag} {h : Heap} {mg : Str → Option Value} {fa : Addr} (X : K.In h) (G : h.Ns mainGlobals mg) (hfa : mg "law" = some (.ref fa))
    {od0 an0 : Option Addr} {sl0 : Array (Option Value)} {oc0 kV0 dc0 pm0 cd0 ct0 : Value} {f0 : Addr}
    (a0 : PySem.W.nsIn K mainGlobals "demand" = some (some (.ref f0))) (l0 : K.lookup f0 = some ⟨oc0, od0, .func (PySem.W.fnOf "demand" "demand" (defArgs (topS 6)) (defBody (topS 6)) (defScope (topS 6)) .none kV0 dc0 pm0 an0 cd0 ct0), sl0⟩) (c0 : PySem.W.codeIn K cd0 "demand" = true) (k0 : PySem.W.keepIn K (.ref f0) = true)
    {od1 an1 : Option Addr} {sl1 : Array (Option Value)} {oc1 kV1 dc1 pm1 cd1 ct1 : Value} {f1 : Addr}
    (a1 : PySem.W.nsIn K mainGlobals "is_in" = some (some (.ref f1))) (l1 : K.lookup f1 = some ⟨oc1, od1, .func (PySem.W.fnOf "is_in" "is_in" (defArgs (topS 7)) (defBody (topS 7)) (defScope (topS 7)) .none kV1 dc1 pm1 an1 cd1 ct1), sl1⟩) (c1 : PySem.W.codeIn K cd1 "is_in" = true) (k1 : PySem.W.keepIn K (.ref f1) = true)
    {od2 an2 : Option Addr} {sl2 : Array (Option Value)} {oc2 kV2 dc2 pm2 cd2 ct2 : Value} {f2 : Addr}
    (a2 : PySem.W.nsIn K mainGlobals "is_tuple" = some (some (.ref f2))) (l2 : K.lookup f2 = some ⟨oc2, od2, .func (PySem.W.fnOf "is_tuple" "is_tuple" (defArgs (topS 8)) (defBody (topS 8)) (defScope (topS 8)) .none kV2 dc2 pm2 an2 cd2 ct2), sl2⟩) (c2 : PySem.W.codeIn K cd2 "is_tuple" = true) (k2 : PySem.W.keepIn K (.ref f2) = true)
    {od3 an3 : Option Addr} {sl3 : Array (Option Value)} {oc3 kV3 dc3 pm3 cd3 ct3 : Value} {f3 : Addr}
    (a3 : PySem.W.nsIn K mainGlobals "is_word" = some (some (.ref f3))) (l3 : K.lookup f3 = some ⟨oc3, od3, .func (PySem.W.fnOf "is_word" "is_word" (defArgs (topS 9)) (defBody (topS 9)) (defScope (topS 9)) .none kV3 dc3 pm3 an3 cd3 ct3), sl3⟩) (c3 : PySem.W.codeIn K cd3 "is_word" = true) (k3 : PySem.W.keepIn K (.ref f3) = true)
    {od4 an4 : Option Addr} {sl4 : Array (Option Value)} {oc4 kV4 dc4 pm4 cd4 ct4 : Value} {f4 : Addr}
    (a4 : PySem.W.nsIn K mainGlobals "is_letter" = some (some (.ref f4))) (l4 : K.lookup f4 = some ⟨oc4, od4, .func (PySem.W.fnOf "is_letter" "is_letter" (defArgs (topS 10)) (defBody (topS 10)) (defScope (topS 10)) .none kV4 dc4 pm4 an4 cd4 ct4), sl4⟩) (c4 : PySem.W.codeIn K cd4 "is_letter" = true) (k4 : PySem.W.keepIn K (.ref f4) = true)
    {od5 an5 : Option Addr} {sl5 : Array (Option Value)} {oc5 kV5 dc5 pm5 cd5 ct5 : Value} {f5 : Addr}
    (a5 : PySem.W.nsIn K mainGlobals "is_cell" = some (some (.ref f5))) (l5 : K.lookup f5 = some ⟨oc5, od5, .func (PySem.W.fnOf "is_cell" "is_cell" (defArgs (topS 11)) (defBody (topS 11)) (defScope (topS 11)) .none kV5 dc5 pm5 an5 cd5 ct5), sl5⟩) (c5 : PySem.W.codeIn K cd5 "is_cell" = true) (k5 : PySem.W.keepIn K (.ref f5) = true)
    {od6 an6 : Option Addr} {sl6 : Array (Option Value)} {oc6 kV6 dc6 pm6 cd6 ct6 : Value} {f6 : Addr}
    (a6 : PySem.W.nsIn K mainGlobals "rises" = some (some (.ref f6))) (l6 : K.lookup f6 = some ⟨oc6, od6, .func (PySem.W.fnOf "rises" "rises" (defArgs (topS 12)) (defBody (topS 12)) (defScope (topS 12)) .none kV6 dc6 pm6 an6 cd6 ct6), sl6⟩) (c6 : PySem.W.codeIn K cd6 "rises" = true) (k6 : PySem.W.keepIn K (.ref f6) = true)
    {od7 an7 : Option Addr} {sl7 : Array (Option Value)} {oc7 kV7 dc7 pm7 cd7 ct7 : Value} {f7 : Addr}
    (a7 : PySem.W.nsIn K mainGlobals "is_table" = some (some (.ref f7))) (l7 : K.lookup f7 = some ⟨oc7, od7, .func (PySem.W.fnOf "is_table" "is_table" (defArgs (topS 16)) (defBody (topS 16)) (defScope (topS 16)) .none kV7 dc7 pm7 an7 cd7 ct7), sl7⟩) (c7 : PySem.W.codeIn K cd7 "is_table" = true) (k7 : PySem.W.keepIn K (.ref f7) = true)
    {od8 an8 : Option Addr} {sl8 : Array (Option Value)} {oc8 kV8 dc8 pm8 cd8 ct8 : Value} {f8 : Addr}
    (a8 : PySem.W.nsIn K mainGlobals "is_schema" = some (some (.ref f8))) (l8 : K.lookup f8 = some ⟨oc8, od8, .func (PySem.W.fnOf "is_schema" "is_schema" (defArgs (topS 17)) (defBody (topS 17)) (defScope (topS 17)) .none kV8 dc8 pm8 an8 cd8 ct8), sl8⟩) (c8 : PySem.W.codeIn K cd8 "is_schema" = true) (k8 : PySem.W.keepIn K (.ref f8) = true)
    {od9 an9 : Option Addr} {sl9 : Array (Option Value)} {oc9 kV9 dc9 pm9 cd9 ct9 : Value} {f9 : Addr}
    (a9 : PySem.W.nsIn K mainGlobals "demand_schema" = some (some (.ref f9))) (l9 : K.lookup f9 = some ⟨oc9, od9, .func (PySem.W.fnOf "demand_schema" "demand_schema" (defArgs (topS 18)) (defBody (topS 18)) (defScope (topS 18)) .none kV9 dc9 pm9 an9 cd9 ct9), sl9⟩) (c9 : PySem.W.codeIn K cd9 "demand_schema" = true) (k9 : PySem.W.keepIn K (.ref f9) = true)
    {od10 an10 : Option Addr} {sl10 : Array (Option Value)} {oc10 kV10 dc10 pm10 cd10 ct10 : Value} {f10 : Addr}
    (a10 : PySem.W.nsIn K mainGlobals "names_in" = some (some (.ref f10))) (l10 : K.lookup f10 = some ⟨oc10, od10, .func (PySem.W.fnOf "names_in" "names_in" (defArgs (topS 19)) (defBody (topS 19)) (defScope (topS 19)) .none kV10 dc10 pm10 an10 cd10 ct10), sl10⟩) (c10 : PySem.W.codeIn K cd10 "names_in" = true) (k10 : PySem.W.keepIn K (.ref f10) = true)
    {od11 an11 : Option Addr} {sl11 : Array (Option Value)} {oc11 kV11 dc11 pm11 cd11 ct11 : Value} {f11 : Addr}
    (a11 : PySem.W.nsIn K mainGlobals "width" = some (some (.ref f11))) (l11 : K.lookup f11 = some ⟨oc11, od11, .func (PySem.W.fnOf "width" "width" (defArgs (topS 20)) (defBody (topS 20)) (defScope (topS 20)) .none kV11 dc11 pm11 an11 cd11 ct11), sl11⟩) (c11 : PySem.W.codeIn K cd11 "width" = true) (k11 : PySem.W.keepIn K (.ref f11) = true)
    {od12 an12 : Option Addr} {sl12 : Array (Option Value)} {oc12 kV12 dc12 pm12 cd12 ct12 : Value} {f12 : Addr}
    (a12 : PySem.W.nsIn K mainGlobals "place_in" = some (some (.ref f12))) (l12 : K.lookup f12 = some ⟨oc12, od12, .func (PySem.W.fnOf "place_in" "place_in" (defArgs (topS 21)) (defBody (topS 21)) (defScope (topS 21)) .none kV12 dc12 pm12 an12 cd12 ct12), sl12⟩) (c12 : PySem.W.codeIn K cd12 "place_in" = true) (k12 : PySem.W.keepIn K (.ref f12) = true)
    {od13 an13 : Option Addr} {sl13 : Array (Option Value)} {oc13 kV13 dc13 pm13 cd13 ct13 : Value} {f13 : Addr}
    (a13 : PySem.W.nsIn K mainGlobals "is_row_of" = some (some (.ref f13))) (l13 : K.lookup f13 = some ⟨oc13, od13, .func (PySem.W.fnOf "is_row_of" "is_row_of" (defArgs (topS 24)) (defBody (topS 24)) (defScope (topS 24)) .none kV13 dc13 pm13 an13 cd13 ct13), sl13⟩) (c13 : PySem.W.codeIn K cd13 "is_row_of" = true) (k13 : PySem.W.keepIn K (.ref f13) = true)
    {od14 an14 : Option Addr} {sl14 : Array (Option Value)} {oc14 kV14 dc14 pm14 cd14 ct14 : Value} {f14 : Addr}
    (a14 : PySem.W.nsIn K mainGlobals "is_part" = some (some (.ref f14))) (l14 : K.lookup f14 = some ⟨oc14, od14, .func (PySem.W.fnOf "is_part" "is_part" (defArgs (topS 25)) (defBody (topS 25)) (defScope (topS 25)) .none kV14 dc14 pm14 an14 cd14 ct14), sl14⟩) (c14 : PySem.W.codeIn K cd14 "is_part" = true) (k14 : PySem.W.keepIn K (.ref f14) = true)
    {od15 an15 : Option Addr} {sl15 : Array (Option Value)} {oc15 kV15 dc15 pm15 cd15 ct15 : Value} {f15 : Addr}
    (a15 : PySem.W.nsIn K mainGlobals "is_store" = some (some (.ref f15))) (l15 : K.lookup f15 = some ⟨oc15, od15, .func (PySem.W.fnOf "is_store" "is_store" (defArgs (topS 26)) (defBody (topS 26)) (defScope (topS 26)) .none kV15 dc15 pm15 an15 cd15 ct15), sl15⟩) (c15 : PySem.W.codeIn K cd15 "is_store" = true) (k15 : PySem.W.keepIn K (.ref f15) = true)
    {od16 an16 : Option Addr} {sl16 : Array (Option Value)} {oc16 kV16 dc16 pm16 cd16 ct16 : Value} {f16 : Addr}
    (a16 : PySem.W.nsIn K mainGlobals "demand_store" = some (some (.ref f16))) (l16 : K.lookup f16 = some ⟨oc16, od16, .func (PySem.W.fnOf "demand_store" "demand_store" (defArgs (topS 27)) (defBody (topS 27)) (defScope (topS 27)) .none kV16 dc16 pm16 an16 cd16 ct16), sl16⟩) (c16 : PySem.W.codeIn K cd16 "demand_store" = true) (k16 : PySem.W.keepIn K (.ref f16) = true)
    {od17 an17 : Option Addr} {sl17 : Array (Option Value)} {oc17 kV17 dc17 pm17 cd17 ct17 : Value} {f17 : Addr}
    (a17 : PySem.W.nsIn K mainGlobals "part_of" = some (some (.ref f17))) (l17 : K.lookup f17 = some ⟨oc17, od17, .func (PySem.W.fnOf "part_of" "part_of" (defArgs (topS 28)) (defBody (topS 28)) (defScope (topS 28)) .none kV17 dc17 pm17 an17 cd17 ct17), sl17⟩) (c17 : PySem.W.codeIn K cd17 "part_of" = true) (k17 : PySem.W.keepIn K (.ref f17) = true)
    {od18 an18 : Option Addr} {sl18 : Array (Option Value)} {oc18 kV18 dc18 pm18 cd18 ct18 : Value} {f18 : Addr}
    (a18 : PySem.W.nsIn K mainGlobals "with_part" = some (some (.ref f18))) (l18 : K.lookup f18 = some ⟨oc18, od18, .func (PySem.W.fnOf "with_part" "with_part" (defArgs (topS 29)) (defBody (topS 29)) (defScope (topS 29)) .none kV18 dc18 pm18 an18 cd18 ct18), sl18⟩) (c18 : PySem.W.codeIn K cd18 "with_part" = true) (k18 : PySem.W.keepIn K (.ref f18) = true)
    {od19 an19 : Option Addr} {sl19 : Array (Option Value)} {oc19 kV19 dc19 pm19 cd19 ct19 : Value} {f19 : Addr}
    (a19 : PySem.W.nsIn K mainGlobals "put" = some (some (.ref f19))) (l19 : K.lookup f19 = some ⟨oc19, od19, .func (PySem.W.fnOf "put" "put" (defArgs (topS 30)) (defBody (topS 30)) (defScope (topS 30)) .none kV19 dc19 pm19 an19 cd19 ct19), sl19⟩) (c19 : PySem.W.codeIn K cd19 "put" = true) (k19 : PySem.W.keepIn K (.ref f19) = true)
    {od20 an20 : Option Addr} {sl20 : Array (Option Value)} {oc20 kV20 dc20 pm20 cd20 ct20 : Value} {f20 : Addr}
    (a20 : PySem.W.nsIn K mainGlobals "take" = some (some (.ref f20))) (l20 : K.lookup f20 = some ⟨oc20, od20, .func (PySem.W.fnOf "take" "take" (defArgs (topS 31)) (defBody (topS 31)) (defScope (topS 31)) .none kV20 dc20 pm20 an20 cd20 ct20), sl20⟩) (c20 : PySem.W.codeIn K cd20 "take" = true) (k20 : PySem.W.keepIn K (.ref f20) = true)
    {od21 an21 : Option Addr} {sl21 : Array (Option Value)} {oc21 kV21 dc21 pm21 cd21 ct21 : Value} {f21 : Addr}
    (a21 : PySem.W.nsIn K mainGlobals "listed" = some (some (.ref f21))) (l21 : K.lookup f21 = some ⟨oc21, od21, .func (PySem.W.fnOf "listed" "listed" (defArgs (topS 32)) (defBody (topS 32)) (defScope (topS 32)) .none kV21 dc21 pm21 an21 cd21 ct21), sl21⟩) (c21 : PySem.W.codeIn K cd21 "listed" = true) (k21 : PySem.W.keepIn K (.ref f21) = true)
    {od22 an22 : Option Addr} {sl22 : Array (Option Value)} {oc22 kV22 dc22 pm22 cd22 ct22 : Value} {f22 : Addr}
    (a22 : PySem.W.nsIn K mainGlobals "minus" = some (some (.ref f22))) (l22 : K.lookup f22 = some ⟨oc22, od22, .func (PySem.W.fnOf "minus" "minus" (defArgs (topS 33)) (defBody (topS 33)) (defScope (topS 33)) .none kV22 dc22 pm22 an22 cd22 ct22), sl22⟩) (c22 : PySem.W.codeIn K cd22 "minus" = true) (k22 : PySem.W.keepIn K (.ref f22) = true)
    {od23 an23 : Option Addr} {sl23 : Array (Option Value)} {oc23 kV23 dc23 pm23 cd23 ct23 : Value} {f23 : Addr}
    (a23 : PySem.W.nsIn K mainGlobals "difference" = some (some (.ref f23))) (l23 : K.lookup f23 = some ⟨oc23, od23, .func (PySem.W.fnOf "difference" "difference" (defArgs (topS 34)) (defBody (topS 34)) (defScope (topS 34)) .none kV23 dc23 pm23 an23 cd23 ct23), sl23⟩) (c23 : PySem.W.codeIn K cd23 "difference" = true) (k23 : PySem.W.keepIn K (.ref f23) = true)
    {od24 an24 : Option Addr} {sl24 : Array (Option Value)} {oc24 kV24 dc24 pm24 cd24 ct24 : Value} {f24 : Addr}
    (a24 : PySem.W.nsIn K mainGlobals "are_rows" = some (some (.ref f24))) (l24 : K.lookup f24 = some ⟨oc24, od24, .func (PySem.W.fnOf "are_rows" "are_rows" (defArgs (topS 36)) (defBody (topS 36)) (defScope (topS 36)) .none kV24 dc24 pm24 an24 cd24 ct24), sl24⟩) (c24 : PySem.W.codeIn K cd24 "are_rows" = true) (k24 : PySem.W.keepIn K (.ref f24) = true)
    {od25 an25 : Option Addr} {sl25 : Array (Option Value)} {oc25 kV25 dc25 pm25 cd25 ct25 : Value} {f25 : Addr}
    (a25 : PySem.W.nsIn K mainGlobals "changed" = some (some (.ref f25))) (l25 : K.lookup f25 = some ⟨oc25, od25, .func (PySem.W.fnOf "changed" "changed" (defArgs (topS 35)) (defBody (topS 35)) (defScope (topS 35)) .none kV25 dc25 pm25 an25 cd25 ct25), sl25⟩) (c25 : PySem.W.codeIn K cd25 "changed" = true) (k25 : PySem.W.keepIn K (.ref f25) = true)
    {od26 an26 : Option Addr} {sl26 : Array (Option Value)} {oc26 kV26 dc26 pm26 cd26 ct26 : Value} {f26 : Addr}
    (a26 : PySem.W.nsIn K mainGlobals "is_term" = some (some (.ref f26))) (l26 : K.lookup f26 = some ⟨oc26, od26, .func (PySem.W.fnOf "is_term" "is_term" (defArgs (topS 38)) (defBody (topS 38)) (defScope (topS 38)) .none kV26 dc26 pm26 an26 cd26 ct26), sl26⟩) (c26 : PySem.W.codeIn K cd26 "is_term" = true) (k26 : PySem.W.keepIn K (.ref f26) = true)
    {od27 an27 : Option Addr} {sl27 : Array (Option Value)} {oc27 kV27 dc27 pm27 cd27 ct27 : Value} {f27 : Addr}
    (a27 : PySem.W.nsIn K mainGlobals "is_action" = some (some (.ref f27))) (l27 : K.lookup f27 = some ⟨oc27, od27, .func (PySem.W.fnOf "is_action" "is_action" (defArgs (topS 41)) (defBody (topS 41)) (defScope (topS 41)) .none kV27 dc27 pm27 an27 cd27 ct27), sl27⟩) (c27 : PySem.W.codeIn K cd27 "is_action" = true) (k27 : PySem.W.keepIn K (.ref f27) = true)
    {od28 an28 : Option Addr} {sl28 : Array (Option Value)} {oc28 kV28 dc28 pm28 cd28 ct28 : Value} {f28 : Addr}
    (a28 : PySem.W.nsIn K mainGlobals "are_actions" = some (some (.ref f28))) (l28 : K.lookup f28 = some ⟨oc28, od28, .func (PySem.W.fnOf "are_actions" "are_actions" (defArgs (topS 42)) (defBody (topS 42)) (defScope (topS 42)) .none kV28 dc28 pm28 an28 cd28 ct28), sl28⟩) (c28 : PySem.W.codeIn K cd28 "are_actions" = true) (k28 : PySem.W.keepIn K (.ref f28) = true)
    {od29 an29 : Option Addr} {sl29 : Array (Option Value)} {oc29 kV29 dc29 pm29 cd29 ct29 : Value} {f29 : Addr}
    (a29 : PySem.W.nsIn K mainGlobals "demand_actions" = some (some (.ref f29))) (l29 : K.lookup f29 = some ⟨oc29, od29, .func (PySem.W.fnOf "demand_actions" "demand_actions" (defArgs (topS 43)) (defBody (topS 43)) (defScope (topS 43)) .none kV29 dc29 pm29 an29 cd29 ct29), sl29⟩) (c29 : PySem.W.codeIn K cd29 "demand_actions" = true) (k29 : PySem.W.keepIn K (.ref f29) = true)
    {od30 an30 : Option Addr} {sl30 : Array (Option Value)} {oc30 kV30 dc30 pm30 cd30 ct30 : Value} {f30 : Addr}
    (a30 : PySem.W.nsIn K mainGlobals "run" = some (some (.ref f30))) (l30 : K.lookup f30 = some ⟨oc30, od30, .func (PySem.W.fnOf "run" "run" (defArgs (topS 44)) (defBody (topS 44)) (defScope (topS 44)) .none kV30 dc30 pm30 an30 cd30 ct30), sl30⟩) (c30 : PySem.W.codeIn K cd30 "run" = true) (k30 : PySem.W.keepIn K (.ref f30) = true)
    {od31 an31 : Option Addr} {sl31 : Array (Option Value)} {oc31 kV31 dc31 pm31 cd31 ct31 : Value} {f31 : Addr}
    (a31 : PySem.W.nsIn K mainGlobals "done" = some (some (.ref f31))) (l31 : K.lookup f31 = some ⟨oc31, od31, .func (PySem.W.fnOf "done" "done" (defArgs (topS 45)) (defBody (topS 45)) (defScope (topS 45)) .none kV31 dc31 pm31 an31 cd31 ct31), sl31⟩) (c31 : PySem.W.codeIn K cd31 "done" = true) (k31 : PySem.W.keepIn K (.ref f31) = true)
    {od32 an32 : Option Addr} {sl32 : Array (Option Value)} {oc32 kV32 dc32 pm32 cd32 ct32 : Value} {f32 : Addr}
    (a32 : PySem.W.nsIn K mainGlobals "net" = some (some (.ref f32))) (l32 : K.lookup f32 = some ⟨oc32, od32, .func (PySem.W.fnOf "net" "net" (defArgs (topS 46)) (defBody (topS 46)) (defScope (topS 46)) .none kV32 dc32 pm32 an32 cd32 ct32), sl32⟩) (c32 : PySem.W.codeIn K cd32 "net" = true) (k32 : PySem.W.keepIn K (.ref f32) = true)
    {od33 an33 : Option Addr} {sl33 : Array (Option Value)} {oc33 kV33 dc33 pm33 cd33 ct33 : Value} {f33 : Addr}
    (a33 : PySem.W.nsIn K mainGlobals "taking_back" = some (some (.ref f33))) (l33 : K.lookup f33 = some ⟨oc33, od33, .func (PySem.W.fnOf "taking_back" "taking_back" (defArgs (topS 47)) (defBody (topS 47)) (defScope (topS 47)) .none kV33 dc33 pm33 an33 cd33 ct33), sl33⟩) (c33 : PySem.W.codeIn K cd33 "taking_back" = true) (k33 : PySem.W.keepIn K (.ref f33) = true)
    {od34 an34 : Option Addr} {sl34 : Array (Option Value)} {oc34 kV34 dc34 pm34 cd34 ct34 : Value} {f34 : Addr}
    (a34 : PySem.W.nsIn K mainGlobals "is_idle" = some (some (.ref f34))) (l34 : K.lookup f34 = some ⟨oc34, od34, .func (PySem.W.fnOf "is_idle" "is_idle" (defArgs (topS 48)) (defBody (topS 48)) (defScope (topS 48)) .none kV34 dc34 pm34 an34 cd34 ct34), sl34⟩) (c34 : PySem.W.codeIn K cd34 "is_idle" = true) (k34 : PySem.W.keepIn K (.ref f34) = true)
    {od35 an35 : Option Addr} {sl35 : Array (Option Value)} {oc35 kV35 dc35 pm35 cd35 ct35 : Value} {f35 : Addr}
    (a35 : PySem.W.nsIn K mainGlobals "settled" = some (some (.ref f35))) (l35 : K.lookup f35 = some ⟨oc35, od35, .func (PySem.W.fnOf "settled" "settled" (defArgs (topS 49)) (defBody (topS 49)) (defScope (topS 49)) .none kV35 dc35 pm35 an35 cd35 ct35), sl35⟩) (c35 : PySem.W.codeIn K cd35 "settled" = true) (k35 : PySem.W.keepIn K (.ref f35) = true)
    {od36 an36 : Option Addr} {sl36 : Array (Option Value)} {oc36 kV36 dc36 pm36 cd36 ct36 : Value} {f36 : Addr}
    (a36 : PySem.W.nsIn K mainGlobals "are_deeds" = some (some (.ref f36))) (l36 : K.lookup f36 = some ⟨oc36, od36, .func (PySem.W.fnOf "are_deeds" "are_deeds" (defArgs (topS 53)) (defBody (topS 53)) (defScope (topS 53)) .none kV36 dc36 pm36 an36 cd36 ct36), sl36⟩) (c36 : PySem.W.codeIn K cd36 "are_deeds" = true) (k36 : PySem.W.keepIn K (.ref f36) = true)
    {od37 an37 : Option Addr} {sl37 : Array (Option Value)} {oc37 kV37 dc37 pm37 cd37 ct37 : Value} {f37 : Addr}
    (a37 : PySem.W.nsIn K mainGlobals "demand_deeds" = some (some (.ref f37))) (l37 : K.lookup f37 = some ⟨oc37, od37, .func (PySem.W.fnOf "demand_deeds" "demand_deeds" (defArgs (topS 54)) (defBody (topS 54)) (defScope (topS 54)) .none kV37 dc37 pm37 an37 cd37 ct37), sl37⟩) (c37 : PySem.W.codeIn K cd37 "demand_deeds" = true) (k37 : PySem.W.keepIn K (.ref f37) = true)
    {od38 an38 : Option Addr} {sl38 : Array (Option Value)} {oc38 kV38 dc38 pm38 cd38 ct38 : Value} {f38 : Addr}
    (a38 : PySem.W.nsIn K mainGlobals "in_line" = some (some (.ref f38))) (l38 : K.lookup f38 = some ⟨oc38, od38, .func (PySem.W.fnOf "in_line" "in_line" (defArgs (topS 55)) (defBody (topS 55)) (defScope (topS 55)) .none kV38 dc38 pm38 an38 cd38 ct38), sl38⟩) (c38 : PySem.W.codeIn K cd38 "in_line" = true) (k38 : PySem.W.keepIn K (.ref f38) = true)
    {od39 an39 : Option Addr} {sl39 : Array (Option Value)} {oc39 kV39 dc39 pm39 cd39 ct39 : Value} {f39 : Addr}
    (a39 : PySem.W.nsIn K mainGlobals "last_ones" = some (some (.ref f39))) (l39 : K.lookup f39 = some ⟨oc39, od39, .func (PySem.W.fnOf "last_ones" "last_ones" (defArgs (topS 56)) (defBody (topS 56)) (defScope (topS 56)) .none kV39 dc39 pm39 an39 cd39 ct39), sl39⟩) (c39 : PySem.W.codeIn K cd39 "last_ones" = true) (k39 : PySem.W.keepIn K (.ref f39) = true)
    {od40 an40 : Option Addr} {sl40 : Array (Option Value)} {oc40 kV40 dc40 pm40 cd40 ct40 : Value} {f40 : Addr}
    (a40 : PySem.W.nsIn K mainGlobals "stores_along" = some (some (.ref f40))) (l40 : K.lookup f40 = some ⟨oc40, od40, .func (PySem.W.fnOf "stores_along" "stores_along" (defArgs (topS 57)) (defBody (topS 57)) (defScope (topS 57)) .none kV40 dc40 pm40 an40 cd40 ct40), sl40⟩) (c40 : PySem.W.codeIn K cd40 "stores_along" = true) (k40 : PySem.W.keepIn K (.ref f40) = true)
    {od41 an41 : Option Addr} {sl41 : Array (Option Value)} {oc41 kV41 dc41 pm41 cd41 ct41 : Value} {f41 : Addr}
    (a41 : PySem.W.nsIn K mainGlobals "along" = some (some (.ref f41))) (l41 : K.lookup f41 = some ⟨oc41, od41, .func (PySem.W.fnOf "along" "along" (defArgs (topS 58)) (defBody (topS 58)) (defScope (topS 58)) .none kV41 dc41 pm41 an41 cd41 ct41), sl41⟩) (c41 : PySem.W.codeIn K cd41 "along" = true) (k41 : PySem.W.keepIn K (.ref f41) = true)
    {od42 an42 : Option Addr} {sl42 : Array (Option Value)} {oc42 kV42 dc42 pm42 cd42 ct42 : Value} {f42 : Addr}
    (a42 : PySem.W.nsIn K mainGlobals "at_once" = some (some (.ref f42))) (l42 : K.lookup f42 = some ⟨oc42, od42, .func (PySem.W.fnOf "at_once" "at_once" (defArgs (topS 59)) (defBody (topS 59)) (defScope (topS 59)) .none kV42 dc42 pm42 an42 cd42 ct42), sl42⟩) (c42 : PySem.W.codeIn K cd42 "at_once" = true) (k42 : PySem.W.keepIn K (.ref f42) = true)
    {od43 an43 : Option Addr} {sl43 : Array (Option Value)} {oc43 kV43 dc43 pm43 cd43 ct43 : Value} {f43 : Addr}
    (a43 : PySem.W.nsIn K mainGlobals "demand_order" = some (some (.ref f43))) (l43 : K.lookup f43 = some ⟨oc43, od43, .func (PySem.W.fnOf "demand_order" "demand_order" (defArgs (topS 61)) (defBody (topS 61)) (defScope (topS 61)) .none kV43 dc43 pm43 an43 cd43 ct43), sl43⟩) (c43 : PySem.W.codeIn K cd43 "demand_order" = true) (k43 : PySem.W.keepIn K (.ref f43) = true)
    {od44 an44 : Option Addr} {sl44 : Array (Option Value)} {oc44 kV44 dc44 pm44 cd44 ct44 : Value} {f44 : Addr}
    (a44 : PySem.W.nsIn K mainGlobals "term_by" = some (some (.ref f44))) (l44 : K.lookup f44 = some ⟨oc44, od44, .func (PySem.W.fnOf "term_by" "term_by" (defArgs (topS 62)) (defBody (topS 62)) (defScope (topS 62)) .none kV44 dc44 pm44 an44 cd44 ct44), sl44⟩) (c44 : PySem.W.codeIn K cd44 "term_by" = true) (k44 : PySem.W.keepIn K (.ref f44) = true)
    {od45 an45 : Option Addr} {sl45 : Array (Option Value)} {oc45 kV45 dc45 pm45 cd45 ct45 : Value} {f45 : Addr}
    (a45 : PySem.W.nsIn K mainGlobals "terms_by" = some (some (.ref f45))) (l45 : K.lookup f45 = some ⟨oc45, od45, .func (PySem.W.fnOf "terms_by" "terms_by" (defArgs (topS 63)) (defBody (topS 63)) (defScope (topS 63)) .none kV45 dc45 pm45 an45 cd45 ct45), sl45⟩) (c45 : PySem.W.codeIn K cd45 "terms_by" = true) (k45 : PySem.W.keepIn K (.ref f45) = true)
    {od46 an46 : Option Addr} {sl46 : Array (Option Value)} {oc46 kV46 dc46 pm46 cd46 ct46 : Value} {f46 : Addr}
    (a46 : PySem.W.nsIn K mainGlobals "renamed_store" = some (some (.ref f46))) (l46 : K.lookup f46 = some ⟨oc46, od46, .func (PySem.W.fnOf "renamed_store" "renamed_store" (defArgs (topS 64)) (defBody (topS 64)) (defScope (topS 64)) .none kV46 dc46 pm46 an46 cd46 ct46), sl46⟩) (c46 : PySem.W.codeIn K cd46 "renamed_store" = true) (k46 : PySem.W.keepIn K (.ref f46) = true)
    {od47 an47 : Option Addr} {sl47 : Array (Option Value)} {oc47 kV47 dc47 pm47 cd47 ct47 : Value} {f47 : Addr}
    (a47 : PySem.W.nsIn K mainGlobals "_law_dice" = some (some (.ref f47))) (l47 : K.lookup f47 = some ⟨oc47, od47, .func (PySem.W.fnOf "_law_dice" "_law_dice" (defArgs (topS 66)) (defBody (topS 66)) (defScope (topS 66)) .none kV47 dc47 pm47 an47 cd47 ct47), sl47⟩) (c47 : PySem.W.codeIn K cd47 "_law_dice" = true) (k47 : PySem.W.keepIn K (.ref f47) = true)
    {od48 an48 : Option Addr} {sl48 : Array (Option Value)} {oc48 kV48 dc48 pm48 cd48 ct48 : Value} {f48 : Addr}
    (a48 : PySem.W.nsIn K mainGlobals "_law_roll" = some (some (.ref f48))) (l48 : K.lookup f48 = some ⟨oc48, od48, .func (PySem.W.fnOf "_law_roll" "_law_roll" (defArgs (topS 67)) (defBody (topS 67)) (defScope (topS 67)) .none kV48 dc48 pm48 an48 cd48 ct48), sl48⟩) (c48 : PySem.W.codeIn K cd48 "_law_roll" = true) (k48 : PySem.W.keepIn K (.ref f48) = true)
    {od49 an49 : Option Addr} {sl49 : Array (Option Value)} {oc49 kV49 dc49 pm49 cd49 ct49 : Value} {f49 : Addr}
    (a49 : PySem.W.nsIn K mainGlobals "_law_pick" = some (some (.ref f49))) (l49 : K.lookup f49 = some ⟨oc49, od49, .func (PySem.W.fnOf "_law_pick" "_law_pick" (defArgs (topS 68)) (defBody (topS 68)) (defScope (topS 68)) .none kV49 dc49 pm49 an49 cd49 ct49), sl49⟩) (c49 : PySem.W.codeIn K cd49 "_law_pick" = true) (k49 : PySem.W.keepIn K (.ref f49) = true)
    {od50 an50 : Option Addr} {sl50 : Array (Option Value)} {oc50 kV50 dc50 pm50 cd50 ct50 : Value} {f50 : Addr}
    (a50 : PySem.W.nsIn K mainGlobals "_law_schema" = some (some (.ref f50))) (l50 : K.lookup f50 = some ⟨oc50, od50, .func (PySem.W.fnOf "_law_schema" "_law_schema" (defArgs (topS 69)) (defBody (topS 69)) (defScope (topS 69)) .none kV50 dc50 pm50 an50 cd50 ct50), sl50⟩) (c50 : PySem.W.codeIn K cd50 "_law_schema" = true) (k50 : PySem.W.keepIn K (.ref f50) = true)
    {od51 an51 : Option Addr} {sl51 : Array (Option Value)} {oc51 kV51 dc51 pm51 cd51 ct51 : Value} {f51 : Addr}
    (a51 : PySem.W.nsIn K mainGlobals "_law_row" = some (some (.ref f51))) (l51 : K.lookup f51 = some ⟨oc51, od51, .func (PySem.W.fnOf "_law_row" "_law_row" (defArgs (topS 71)) (defBody (topS 71)) (defScope (topS 71)) .none kV51 dc51 pm51 an51 cd51 ct51), sl51⟩) (c51 : PySem.W.codeIn K cd51 "_law_row" = true) (k51 : PySem.W.keepIn K (.ref f51) = true)
    {od52 an52 : Option Addr} {sl52 : Array (Option Value)} {oc52 kV52 dc52 pm52 cd52 ct52 : Value} {f52 : Addr}
    (a52 : PySem.W.nsIn K mainGlobals "_law_store" = some (some (.ref f52))) (l52 : K.lookup f52 = some ⟨oc52, od52, .func (PySem.W.fnOf "_law_store" "_law_store" (defArgs (topS 72)) (defBody (topS 72)) (defScope (topS 72)) .none kV52 dc52 pm52 an52 cd52 ct52), sl52⟩) (c52 : PySem.W.codeIn K cd52 "_law_store" = true) (k52 : PySem.W.keepIn K (.ref f52) = true)
    {od53 an53 : Option Addr} {sl53 : Array (Option Value)} {oc53 kV53 dc53 pm53 cd53 ct53 : Value} {f53 : Addr}
    (a53 : PySem.W.nsIn K mainGlobals "_law_put" = some (some (.ref f53))) (l53 : K.lookup f53 = some ⟨oc53, od53, .func (PySem.W.fnOf "_law_put" "_law_put" (defArgs (topS 74)) (defBody (topS 74)) (defScope (topS 74)) .none kV53 dc53 pm53 an53 cd53 ct53), sl53⟩) (c53 : PySem.W.codeIn K cd53 "_law_put" = true) (k53 : PySem.W.keepIn K (.ref f53) = true)
    {od54 an54 : Option Addr} {sl54 : Array (Option Value)} {oc54 kV54 dc54 pm54 cd54 ct54 : Value} {f54 : Addr}
    (a54 : PySem.W.nsIn K mainGlobals "_law_run" = some (some (.ref f54))) (l54 : K.lookup f54 = some ⟨oc54, od54, .func (PySem.W.fnOf "_law_run" "_law_run" (defArgs (topS 75)) (defBody (topS 75)) (defScope (topS 75)) .none kV54 dc54 pm54 an54 cd54 ct54), sl54⟩) (c54 : PySem.W.codeIn K cd54 "_law_run" = true) (k54 : PySem.W.keepIn K (.ref f54) = true)
    {od55 an55 : Option Addr} {sl55 : Array (Option Value)} {oc55 kV55 dc55 pm55 cd55 ct55 : Value} {f55 : Addr}
    (a55 : PySem.W.nsIn K mainGlobals "_law_actions" = some (some (.ref f55))) (l55 : K.lookup f55 = some ⟨oc55, od55, .func (PySem.W.fnOf "_law_actions" "_law_actions" (defArgs (topS 76)) (defBody (topS 76)) (defScope (topS 76)) .none kV55 dc55 pm55 an55 cd55 ct55), sl55⟩) (c55 : PySem.W.codeIn K cd55 "_law_actions" = true) (k55 : PySem.W.keepIn K (.ref f55) = true)
    {od56 an56 : Option Addr} {sl56 : Array (Option Value)} {oc56 kV56 dc56 pm56 cd56 ct56 : Value} {f56 : Addr}
    (a56 : PySem.W.nsIn K mainGlobals "_law_last" = some (some (.ref f56))) (l56 : K.lookup f56 = some ⟨oc56, od56, .func (PySem.W.fnOf "_law_last" "_law_last" (defArgs (topS 78)) (defBody (topS 78)) (defScope (topS 78)) .none kV56 dc56 pm56 an56 cd56 ct56), sl56⟩) (c56 : PySem.W.codeIn K cd56 "_law_last" = true) (k56 : PySem.W.keepIn K (.ref f56) = true)
    {od57 an57 : Option Addr} {sl57 : Array (Option Value)} {oc57 kV57 dc57 pm57 cd57 ct57 : Value} {f57 : Addr}
    (a57 : PySem.W.nsIn K mainGlobals "_law_moved" = some (some (.ref f57))) (l57 : K.lookup f57 = some ⟨oc57, od57, .func (PySem.W.fnOf "_law_moved" "_law_moved" (defArgs (topS 80)) (defBody (topS 80)) (defScope (topS 80)) .none kV57 dc57 pm57 an57 cd57 ct57), sl57⟩) (c57 : PySem.W.codeIn K cd57 "_law_moved" = true) (k57 : PySem.W.keepIn K (.ref f57) = true)
    {od58 an58 : Option Addr} {sl58 : Array (Option Value)} {oc58 kV58 dc58 pm58 cd58 ct58 : Value} {f58 : Addr}
    (a58 : PySem.W.nsIn K mainGlobals "_law_back" = some (some (.ref f58))) (l58 : K.lookup f58 = some ⟨oc58, od58, .func (PySem.W.fnOf "_law_back" "_law_back" (defArgs (topS 82)) (defBody (topS 82)) (defScope (topS 82)) .none kV58 dc58 pm58 an58 cd58 ct58), sl58⟩) (c58 : PySem.W.codeIn K cd58 "_law_back" = true) (k58 : PySem.W.keepIn K (.ref f58) = true)
    {od59 an59 : Option Addr} {sl59 : Array (Option Value)} {oc59 kV59 dc59 pm59 cd59 ct59 : Value} {f59 : Addr}
    (a59 : PySem.W.nsIn K mainGlobals "_law_case" = some (some (.ref f59))) (l59 : K.lookup f59 = some ⟨oc59, od59, .func (PySem.W.fnOf "_law_case" "_law_case" (defArgs (topS 81)) (defBody (topS 81)) (defScope (topS 81)) .none kV59 dc59 pm59 an59 cd59 ct59), sl59⟩) (c59 : PySem.W.codeIn K cd59 "_law_case" = true) (k59 : PySem.W.keepIn K (.ref f59) = true)
    {od60 an60 : Option Addr} {sl60 : Array (Option Value)} {oc60 kV60 dc60 pm60 cd60 ct60 : Value} {f60 : Addr}
    (a60 : PySem.W.nsIn K mainGlobals "law" = some (some (.ref f60))) (l60 : K.lookup f60 = some ⟨oc60, od60, .func (PySem.W.fnOf "law" "law" (defArgs (topS 83)) (defBody (topS 83)) (defScope (topS 83)) .none kV60 dc60 pm60 an60 cd60 ct60), sl60⟩) (c60 : PySem.W.codeIn K cd60 "law" = true) (k60 : PySem.W.keepIn K (.ref f60) = true)
    (z0 : PySem.W.nsIn K mainGlobals "len" = some none)
    (z1 : PySem.W.nsIn K mainGlobals "tuple" = some none)
    (z2 : PySem.W.nsIn K mainGlobals "list" = some none)
    (z3 : PySem.W.nsIn K mainGlobals "all" = some none)
    (z4 : PySem.W.nsIn K mainGlobals "any" = some none)
    (z5 : PySem.W.nsIn K mainGlobals "sum" = some none)
    (z6 : PySem.W.nsIn K mainGlobals "int" = some none)
    (z7 : PySem.W.nsIn K mainGlobals "abs" = some none)
    (z8 : PySem.W.nsIn K mainGlobals "max" = some none)
    (z9 : PySem.W.nsIn K mainGlobals "min" = some none)
    (z10 : PySem.W.nsIn K mainGlobals "isinstance" = some none)
    (z11 : PySem.W.nsIn K mainGlobals "sorted" = some none)
    (z12 : PySem.W.nsIn K mainGlobals "set" = some none)
    (z13 : PySem.W.nsIn K mainGlobals "dict" = some none)
    (z14 : PySem.W.nsIn K mainGlobals "range" = some none)
    (z15 : PySem.W.nsIn K mainGlobals "zip" = some none)
    (z16 : PySem.W.nsIn K mainGlobals "enumerate" = some none)
    (z17 : PySem.W.nsIn K mainGlobals "bool" = some none)
    (z18 : PySem.W.nsIn K mainGlobals "str" = some none)
    {t0 : Tok} (y0 : PySem.W.nsIn K mainGlobals "LETTERS" = some (some (.str "abcdefghijklmnopqrstuvwxyz" t0)))
    {t1 : Tok} (y1 : PySem.W.nsIn K mainGlobals "MOST_TABLES" = some (some (.int 4 t1)))
    {t2 : Tok} (y2 : PySem.W.nsIn K mainGlobals "MOST_COLUMNS" = some (some (.int 4 t2)))
    {t3 : Tok} (y3 : PySem.W.nsIn K mainGlobals "MOST_ROWS" = some (some (.int 40 t3)))
    {t4 : Tok} (y4 : PySem.W.nsIn K mainGlobals "MOST_DONE" = some (some (.int 12 t4)))
    {t5 : Tok} (y5 : PySem.W.nsIn K mainGlobals "MOST_DEEDS" = some (some (.int 6 t5)))
    {t6 : Tok} (y6 : PySem.W.nsIn K mainGlobals "MOST_EACH" = some (some (.int 4 t6)))
    : ∃ fd : FuncData, (∀ (s : Shared) (v : Value), BindsTo s fd ⟨[v], []⟩ [("script", v)]) ∧ ∀ base : Heap, K.In base → base.Ns mainGlobals mg → FnOk l.prog w K mg base CX0 10 fa fd ["script"] (spTop K) := by
  have e := hfa.symm.trans (PySem.W.mg_of X G a60)
  cases e
  have bl : ∀ x ∈ bNames, mg x = none := fun x hx => by
    simp only [bNames, List.mem_cons, List.not_mem_nil, or_false] at hx
    rcases hx with rfl | rfl | rfl | rfl | rfl | rfl | rfl | rfl | rfl | rfl | rfl | rfl | rfl | rfl | rfl | rfl | rfl | rfl | rfl
    · exact PySem.W.mg_none_of X G z0
    · exact PySem.W.mg_none_of X G z1
    · exact PySem.W.mg_none_of X G z2
    · exact PySem.W.mg_none_of X G z3
    · exact PySem.W.mg_none_of X G z4
    · exact PySem.W.mg_none_of X G z5
    · exact PySem.W.mg_none_of X G z6
    · exact PySem.W.mg_none_of X G z7
    · exact PySem.W.mg_none_of X G z8
    · exact PySem.W.mg_none_of X G z9
    · exact PySem.W.mg_none_of X G z10
    · exact PySem.W.mg_none_of X G z11
    · exact PySem.W.mg_none_of X G z12
    · exact PySem.W.mg_none_of X G z13
    · exact PySem.W.mg_none_of X G z14
    · exact PySem.W.mg_none_of X G z15
    · exact PySem.W.mg_none_of X G z16
    · exact PySem.W.mg_none_of X G z17
    · exact PySem.W.mg_none_of X G z18
  have cs : ∀ x d, cst.lookup x = some d → HasC K mg x d := all_cons (hasC_str (PySem.W.mg_of X G y0) (by decide +kernel)) (all_cons (hasC_int (PySem.W.mg_of X G y1)) (all_cons (hasC_int (PySem.W.mg_of X G y2)) (all_cons (hasC_int (PySem.W.mg_of X G y3)) (all_cons (hasC_int (PySem.W.mg_of X G y4)) (all_cons (hasC_int (PySem.W.mg_of X G y5)) (all_cons (hasC_int (PySem.W.mg_of X G y6)) (all_nil)))))))
  have F0 := fun_mk (st := topS 6) l0 c0 k0
  have b0 := F0.binds (ps := ["good", "name"]) fun _ _ _ _ _ _ us hl => match us, hl with | [_, _], _ => rfl
  have F1 := fun_mk (st := topS 7) l1 c1 k1
  have b1 := F1.binds (ps := ["value", "low", "high"]) fun _ _ _ _ _ _ us hl => match us, hl with | [_, _, _], _ => rfl
  have F2 := fun_mk (st := topS 8) l2 c2 k2
  have b2 := F2.binds (ps := ["value", "low", "high"]) fun _ _ _ _ _ _ us hl => match us, hl with | [_, _, _], _ => rfl
  have F3 := fun_mk (st := topS 9) l3 c3 k3
  have b3 := F3.binds (ps := ["value"]) fun _ _ _ _ _ _ us hl => match us, hl with | [_], _ => rfl
  have F4 := fun_mk (st := topS 10) l4 c4 k4
  have b4 := F4.binds (ps := ["value"]) fun _ _ _ _ _ _ us hl => match us, hl with | [_], _ => rfl
  have F5 := fun_mk (st := topS 11) l5 c5 k5
  have b5 := F5.binds (ps := ["value"]) fun _ _ _ _ _ _ us hl => match us, hl with | [_], _ => rfl
  have F6 := fun_mk (st := topS 12) l6 c6 k6
  have b6 := F6.binds (ps := ["members"]) fun _ _ _ _ _ _ us hl => match us, hl with | [_], _ => rfl
  have F7 := fun_mk (st := topS 16) l7 c7 k7
  have b7 := F7.binds (ps := ["value"]) fun _ _ _ _ _ _ us hl => match us, hl with | [_], _ => rfl
  have F8 := fun_mk (st := topS 17) l8 c8 k8
  have b8 := F8.binds (ps := ["value"]) fun _ _ _ _ _ _ us hl => match us, hl with | [_], _ => rfl
  have F9 := fun_mk (st := topS 18) l9 c9 k9
  have b9 := F9.binds (ps := ["schema"]) fun _ _ _ _ _ _ us hl => match us, hl with | [_], _ => rfl
  have F10 := fun_mk (st := topS 19) l10 c10 k10
  have b10 := F10.binds (ps := ["schema"]) fun _ _ _ _ _ _ us hl => match us, hl with | [_], _ => rfl
  have F11 := fun_mk (st := topS 20) l11 c11 k11
  have b11 := F11.binds (ps := ["schema", "table"]) fun _ _ _ _ _ _ us hl => match us, hl with | [_, _], _ => rfl
  have F12 := fun_mk (st := topS 21) l12 c12 k12
  have b12 := F12.binds (ps := ["schema", "table"]) fun _ _ _ _ _ _ us hl => match us, hl with | [_, _], _ => rfl
  have F13 := fun_mk (st := topS 24) l13 c13 k13
  have b13 := F13.binds (ps := ["schema", "table", "value"]) fun _ _ _ _ _ _ us hl => match us, hl with | [_, _, _], _ => rfl
  have F14 := fun_mk (st := topS 25) l14 c14 k14
  have b14 := F14.binds (ps := ["schema", "table", "value"]) fun _ _ _ _ _ _ us hl => match us, hl with | [_, _, _], _ => rfl
  have F15 := fun_mk (st := topS 26) l15 c15 k15
  have b15 := F15.binds (ps := ["schema", "value"]) fun _ _ _ _ _ _ us hl => match us, hl with | [_, _], _ => rfl
  have F16 := fun_mk (st := topS 27) l16 c16 k16
  have b16 := F16.binds (ps := ["schema", "store", "name"]) fun _ _ _ _ _ _ us hl => match us, hl with | [_, _, _], _ => rfl
  have F17 := fun_mk (st := topS 28) l17 c17 k17
  have b17 := F17.binds (ps := ["schema", "store", "table"]) fun _ _ _ _ _ _ us hl => match us, hl with | [_, _, _], _ => rfl
  have F18 := fun_mk (st := topS 29) l18 c18 k18
  have b18 := F18.binds (ps := ["schema", "store", "table", "rows"]) fun _ _ _ _ _ _ us hl => match us, hl with | [_, _, _, _], _ => rfl
  have F19 := fun_mk (st := topS 30) l19 c19 k19
  have b19 := F19.binds (ps := ["schema", "store", "table", "row"]) fun _ _ _ _ _ _ us hl => match us, hl with | [_, _, _, _], _ => rfl
  have F20 := fun_mk (st := topS 31) l20 c20 k20
  have b20 := F20.binds (ps := ["schema", "store", "table", "row"]) fun _ _ _ _ _ _ us hl => match us, hl with | [_, _, _, _], _ => rfl
  have F21 := fun_mk (st := topS 32) l21 c21 k21
  have b21 := F21.binds (ps := ["schema", "store"]) fun _ _ _ _ _ _ us hl => match us, hl with | [_, _], _ => rfl
  have F22 := fun_mk (st := topS 33) l22 c22 k22
  have b22 := F22.binds (ps := ["schema", "store", "other"]) fun _ _ _ _ _ _ us hl => match us, hl with | [_, _, _], _ => rfl
  have F23 := fun_mk (st := topS 34) l23 c23 k23
  have b23 := F23.binds (ps := ["schema", "store", "other"]) fun _ _ _ _ _ _ us hl => match us, hl with | [_, _, _], _ => rfl
  have F24 := fun_mk (st := topS 36) l24 c24 k24
  have b24 := F24.binds (ps := ["schema", "value"]) fun _ _ _ _ _ _ us hl => match us, hl with | [_, _], _ => rfl
  have F25 := fun_mk (st := topS 35) l25 c25 k25
  have b25 := F25.binds (ps := ["schema", "store", "coming", "going"]) fun _ _ _ _ _ _ us hl => match us, hl with | [_, _, _, _], _ => rfl
  have F26 := fun_mk (st := topS 38) l26 c26 k26
  have b26 := F26.binds (ps := ["value"]) fun _ _ _ _ _ _ us hl => match us, hl with | [_], _ => rfl
  have F27 := fun_mk (st := topS 41) l27 c27 k27
  have b27 := F27.binds (ps := ["schema", "value"]) fun _ _ _ _ _ _ us hl => match us, hl with | [_, _], _ => rfl
  have F28 := fun_mk (st := topS 42) l28 c28 k28
  have b28 := F28.binds (ps := ["schema", "value"]) fun _ _ _ _ _ _ us hl => match us, hl with | [_, _], _ => rfl
  have F29 := fun_mk (st := topS 43) l29 c29 k29
  have b29 := F29.binds (ps := ["schema", "actions", "name"]) fun _ _ _ _ _ _ us hl => match us, hl with | [_, _, _], _ => rfl
  have F30 := fun_mk (st := topS 44) l30 c30 k30
  have b30 := F30.binds (ps := ["schema", "store", "actions"]) fun _ _ _ _ _ _ us hl => match us, hl with | [_, _, _], _ => rfl
  have F31 := fun_mk (st := topS 45) l31 c31 k31
  have b31 := F31.binds (ps := ["schema", "store", "actions"]) fun _ _ _ _ _ _ us hl => match us, hl with | [_, _, _], _ => rfl
  have F32 := fun_mk (st := topS 46) l32 c32 k32
  have b32 := F32.binds (ps := ["schema", "store", "actions"]) fun _ _ _ _ _ _ us hl => match us, hl with | [_, _, _], _ => rfl
  have F33 := fun_mk (st := topS 47) l33 c33 k33
  have b33 := F33.binds (ps := ["schema", "store", "actions"]) fun _ _ _ _ _ _ us hl => match us, hl with | [_, _, _], _ => rfl
  have F34 := fun_mk (st := topS 48) l34 c34 k34
  have b34 := F34.binds (ps := ["schema", "store", "actions"]) fun _ _ _ _ _ _ us hl => match us, hl with | [_, _, _], _ => rfl
  have F35 := fun_mk (st := topS 49) l35 c35 k35
  have b35 := F35.binds (ps := ["schema", "actions"]) fun _ _ _ _ _ _ us hl => match us, hl with | [_, _], _ => rfl
  have F36 := fun_mk (st := topS 53) l36 c36 k36
  have b36 := F36.binds (ps := ["schema", "value"]) fun _ _ _ _ _ _ us hl => match us, hl with | [_, _], _ => rfl
  have F37 := fun_mk (st := topS 54) l37 c37 k37
  have b37 := F37.binds (ps := ["schema", "deeds", "name"]) fun _ _ _ _ _ _ us hl => match us, hl with | [_, _, _], _ => rfl
  have F38 := fun_mk (st := topS 55) l38 c38 k38
  have b38 := F38.binds (ps := ["deeds"]) fun _ _ _ _ _ _ us hl => match us, hl with | [_], _ => rfl
  have F39 := fun_mk (st := topS 56) l39 c39 k39
  have b39 := F39.binds (ps := ["actions"]) fun _ _ _ _ _ _ us hl => match us, hl with | [_], _ => rfl
  have F40 := fun_mk (st := topS 57) l40 c40 k40
  have b40 := F40.binds (ps := ["schema", "store", "deeds"]) fun _ _ _ _ _ _ us hl => match us, hl with | [_, _, _], _ => rfl
  have F41 := fun_mk (st := topS 58) l41 c41 k41
  have b41 := F41.binds (ps := ["schema", "store", "deeds"]) fun _ _ _ _ _ _ us hl => match us, hl with | [_, _, _], _ => rfl
  have F42 := fun_mk (st := topS 59) l42 c42 k42
  have b42 := F42.binds (ps := ["schema", "deeds"]) fun _ _ _ _ _ _ us hl => match us, hl with | [_, _], _ => rfl
  have F43 := fun_mk (st := topS 61) l43 c43 k43
  have b43 := F43.binds (ps := ["order"]) fun _ _ _ _ _ _ us hl => match us, hl with | [_], _ => rfl
  have F44 := fun_mk (st := topS 62) l44 c44 k44
  have b44 := F44.binds (ps := ["term", "order"]) fun _ _ _ _ _ _ us hl => match us, hl with | [_, _], _ => rfl
  have F45 := fun_mk (st := topS 63) l45 c45 k45
  have b45 := F45.binds (ps := ["terms", "order"]) fun _ _ _ _ _ _ us hl => match us, hl with | [_, _], _ => rfl
  have F46 := fun_mk (st := topS 64) l46 c46 k46
  have b46 := F46.binds (ps := ["schema", "store", "order"]) fun _ _ _ _ _ _ us hl => match us, hl with | [_, _, _], _ => rfl
  have F47 := fun_mk (st := topS 66) l47 c47 k47
  have b47 := F47.binds (ps := ["script", "spot"]) fun _ _ _ _ _ _ us hl => match us, hl with | [_, _], _ => rfl
  have F48 := fun_mk (st := topS 67) l48 c48 k48
  have b48 := F48.binds (ps := ["dice", "total"]) fun _ _ _ _ _ _ us hl => match us, hl with | [_, _], _ => rfl
  have F49 := fun_mk (st := topS 68) l49 c49 k49
  have b49 := F49.binds (ps := ["dice", "things"]) fun _ _ _ _ _ _ us hl => match us, hl with | [_, _], _ => rfl
  have F50 := fun_mk (st := topS 69) l50 c50 k50
  have b50 := F50.binds (ps := ["dice"]) fun _ _ _ _ _ _ us hl => match us, hl with | [_], _ => rfl
  have F51 := fun_mk (st := topS 71) l51 c51 k51
  have b51 := F51.binds (ps := ["dice", "wide", "cells"]) fun _ _ _ _ _ _ us hl => match us, hl with | [_, _, _], _ => rfl
  have F52 := fun_mk (st := topS 72) l52 c52 k52
  have b52 := F52.binds (ps := ["dice", "schema", "most", "cells"]) fun _ _ _ _ _ _ us hl => match us, hl with | [_, _, _, _], _ => rfl
  have F53 := fun_mk (st := topS 74) l53 c53 k53
  have b53 := F53.binds (ps := ["schema", "store", "verb", "table", "row"]) fun _ _ _ _ _ _ us hl => match us, hl with | [_, _, _, _, _], _ => rfl
  have F54 := fun_mk (st := topS 75) l54 c54 k54
  have b54 := F54.binds (ps := ["schema", "store", "actions"]) fun _ _ _ _ _ _ us hl => match us, hl with | [_, _, _], _ => rfl
  have F55 := fun_mk (st := topS 76) l55 c55 k55
  have b55 := F55.binds (ps := ["dice", "schema", "cells", "most"]) fun _ _ _ _ _ _ us hl => match us, hl with | [_, _, _, _], _ => rfl
  have F56 := fun_mk (st := topS 78) l56 c56 k56
  have b56 := F56.binds (ps := ["actions"]) fun _ _ _ _ _ _ us hl => match us, hl with | [_], _ => rfl
  have F57 := fun_mk (st := topS 80) l57 c57 k57
  have b57 := F57.binds (ps := ["actions", "order"]) fun _ _ _ _ _ _ us hl => match us, hl with | [_, _], _ => rfl
  have F58 := fun_mk (st := topS 82) l58 c58 k58
  have b58 := F58.binds (ps := ["schema", "store", "other"]) fun _ _ _ _ _ _ us hl => match us, hl with | [_, _, _], _ => rfl
  have F59 := fun_mk (st := topS 81) l59 c59 k59
  have b59 := F59.binds (ps := ["dice"]) fun _ _ _ _ _ _ us hl => match us, hl with | [_], _ => rfl
  have F60 := fun_mk (st := topS 83) l60 c60 k60
  have b60 := F60.binds (ps := ["script"]) fun _ _ _ _ _ _ us hl => match us, hl with | [_], _ => rfl
  refine ⟨PySem.W.fnOf "law" "law" (defArgs (topS 83)) (defBody (topS 83)) (defScope (topS 83)) .none kV60 dc60 pm60 an60 cd60 ct60, fun s v => .of_eq rfl, fun base _ _ => ?_⟩
  have H0 : HasF l.prog w K mg base 1 "demand" ⟨F_demand, 2, false⟩ := has_def (k := 0) F0 S_demand b0 (PySem.W.mg_of X G a0) (mods bl cs (all_nil)) C_demand
  have H1 : HasF l.prog w K mg base 1 "is_in" ⟨F_is_in, 3, false⟩ := has_def (k := 0) F1 S_is_in b1 (PySem.W.mg_of X G a1) (mods bl cs (all_nil)) C_is_in
  have H2 : HasF l.prog w K mg base 1 "is_tuple" ⟨F_is_tuple, 3, false⟩ := has_def (k := 0) F2 S_is_tuple b2 (PySem.W.mg_of X G a2) (mods bl cs (all_nil)) C_is_tuple
  have H3 : HasF l.prog w K mg base 1 "is_word" ⟨F_is_word, 1, false⟩ := has_def (k := 0) F3 S_is_word b3 (PySem.W.mg_of X G a3) (mods bl cs (all_nil)) C_is_word
  have H4 : HasF l.prog w K mg base 2 "is_letter" ⟨F_is_letter, 1, false⟩ := has_def (k := 1) F4 S_is_letter b4 (PySem.W.mg_of X G a4) (mods bl cs (all_cons (HasF.lv (H3.mono (by decide))) (all_nil))) C_is_letter
  have H5 : HasF l.prog w K mg base 2 "is_cell" ⟨F_is_cell, 1, false⟩ := has_def (k := 1) F5 S_is_cell b5 (PySem.W.mg_of X G a5) (mods bl cs (all_cons (HasF.lv (H1.mono (by decide))) (all_nil))) C_is_cell
  have H6 : HasF l.prog w K mg base 1 "rises" ⟨F_rises, 1, false⟩ := has_def (k := 0) F6 S_rises b6 (PySem.W.mg_of X G a6) (mods bl cs (all_nil)) C_rises
  have H7 : HasF l.prog w K mg base 2 "is_table" ⟨F_is_table, 1, false⟩ := has_def (k := 1) F7 S_is_table b7 (PySem.W.mg_of X G a7) (mods bl cs (all_cons (HasF.lv (H2.mono (by decide))) (all_cons (HasF.lv (H3.mono (by decide))) (all_cons (HasF.lv (H1.mono (by decide))) (all_nil))))) C_is_table
  have H8 : HasF l.prog w K mg base 3 "is_schema" ⟨F_is_schema, 1, false⟩ := has_def (k := 2) F8 S_is_schema b8 (PySem.W.mg_of X G a8) (mods bl cs (all_cons (HasF.lv (H6.mono (by decide))) (all_cons (HasF.lv (H2.mono (by decide))) (all_cons (HasF.lv (H7.mono (by decide))) (all_nil))))) C_is_schema
  have H9 : HasF l.prog w K mg base 4 "demand_schema" ⟨F_demand_schema, 1, false⟩ := has_def (k := 3) F9 S_demand_schema b9 (PySem.W.mg_of X G a9) (mods bl cs (all_cons (HasF.lv (H0.mono (by decide))) (all_cons (HasF.lv (H8.mono (by decide))) (all_nil)))) C_demand_schema
  have H10 : HasF l.prog w K mg base 1 "names_in" ⟨F_names_in, 1, false⟩ := has_def (k := 0) F10 S_names_in b10 (PySem.W.mg_of X G a10) (mods bl cs (all_nil)) C_names_in
  have H11 : HasF l.prog w K mg base 1 "width" ⟨F_width, 2, false⟩ := has_def (k := 0) F11 S_width b11 (PySem.W.mg_of X G a11) (mods bl cs (all_nil)) C_width
  have H12 : HasF l.prog w K mg base 2 "place_in" ⟨F_place_in, 2, false⟩ := has_def (k := 1) F12 S_place_in b12 (PySem.W.mg_of X G a12) (mods bl cs (all_cons (HasF.lv (H10.mono (by decide))) (all_nil))) C_place_in
  have H13 : HasF l.prog w K mg base 3 "is_row_of" ⟨F_is_row_of, 3, false⟩ := has_def (k := 2) F13 S_is_row_of b13 (PySem.W.mg_of X G a13) (mods bl cs (all_cons (HasF.lv (H2.mono (by decide))) (all_cons (HasF.lv (H11.mono (by decide))) (all_cons (HasF.lv (H5.mono (by decide))) (all_nil))))) C_is_row_of
  have H14 : HasF l.prog w K mg base 4 "is_part" ⟨F_is_part, 3, false⟩ := has_def (k := 3) F14 S_is_part b14 (PySem.W.mg_of X G a14) (mods bl cs (all_cons (HasF.lv (H6.mono (by decide))) (all_cons (HasF.lv (H2.mono (by decide))) (all_cons (HasF.lv (H13.mono (by decide))) (all_nil))))) C_is_part
  have H15 : HasF l.prog w K mg base 5 "is_store" ⟨F_is_store, 2, false⟩ := has_def (k := 4) F15 S_is_store b15 (PySem.W.mg_of X G a15) (mods bl cs (all_cons (HasF.lv (H9.mono (by decide))) (all_cons (HasF.lv (H2.mono (by decide))) (all_cons (HasF.lv (H14.mono (by decide))) (all_nil))))) C_is_store
  have H16 : HasF l.prog w K mg base 6 "demand_store" ⟨F_demand_store, 3, false⟩ := has_def (k := 5) F16 S_demand_store b16 (PySem.W.mg_of X G a16) (mods bl cs (all_cons (HasF.lv (H0.mono (by decide))) (all_cons (HasF.lv (H15.mono (by decide))) (all_nil)))) C_demand_store
  have H17 : HasF l.prog w K mg base 3 "part_of" ⟨F_part_of, 3, false⟩ := has_def (k := 2) F17 S_part_of b17 (PySem.W.mg_of X G a17) (mods bl cs (all_cons (HasF.lv (H12.mono (by decide))) (all_nil))) C_part_of
  have H18 : HasF l.prog w K mg base 3 "with_part" ⟨F_with_part, 4, false⟩ := has_def (k := 2) F18 S_with_part b18 (PySem.W.mg_of X G a18) (mods bl cs (all_cons (HasF.lv (H12.mono (by decide))) (all_nil))) C_with_part
  have H19 : HasF l.prog w K mg base 4 "put" ⟨F_put, 4, false⟩ := has_def (k := 3) F19 S_put b19 (PySem.W.mg_of X G a19) (mods bl cs (all_cons (HasF.lv (H17.mono (by decide))) (all_cons (HasF.lv (H18.mono (by decide))) (all_nil)))) C_put
  have H20 : HasF l.prog w K mg base 4 "take" ⟨F_take, 4, false⟩ := has_def (k := 3) F20 S_take b20 (PySem.W.mg_of X G a20) (mods bl cs (all_cons (HasF.lv (H17.mono (by decide))) (all_cons (HasF.lv (H18.mono (by decide))) (all_nil)))) C_take
  have H21 : HasF l.prog w K mg base 2 "listed" ⟨F_listed, 2, false⟩ := has_def (k := 1) F21 S_listed b21 (PySem.W.mg_of X G a21) (mods bl cs (all_cons (HasF.lv (H10.mono (by decide))) (all_nil))) C_listed
  have H22 : HasF l.prog w K mg base 4 "minus" ⟨F_minus, 3, false⟩ := has_def (k := 3) F22 S_minus b22 (PySem.W.mg_of X G a22) (mods bl cs (all_cons (HasF.lv (H21.mono (by decide))) (all_cons (HasF.lv (H17.mono (by decide))) (all_nil)))) C_minus
  have H23 : HasF l.prog w K mg base 7 "difference" ⟨F_difference, 3, false⟩ := has_def (k := 6) F23 S_difference b23 (PySem.W.mg_of X G a23) (mods bl cs (all_cons (HasF.lv (H16.mono (by decide))) (all_cons (HasF.lv (H22.mono (by decide))) (all_nil)))) C_difference
  have H24 : HasF l.prog w K mg base 4 "are_rows" ⟨F_are_rows, 2, false⟩ := has_def (k := 3) F24 S_are_rows b24 (PySem.W.mg_of X G a24) (mods bl cs (all_cons (HasF.lv (H2.mono (by decide))) (all_cons (HasF.lv (H13.mono (by decide))) (all_cons (HasF.lv (H10.mono (by decide))) (all_nil))))) C_are_rows
  have H25 : HasF l.prog w K mg base 7 "changed" ⟨F_changed, 4, false⟩ := has_def (k := 6) F25 S_changed b25 (PySem.W.mg_of X G a25) (mods bl cs (all_cons (HasF.lv (H16.mono (by decide))) (all_cons (HasF.lv (H0.mono (by decide))) (all_cons (HasF.lv (H24.mono (by decide))) (all_cons (HasF.lv (H20.mono (by decide))) (all_cons (HasF.lv (H19.mono (by decide))) (all_nil))))))) C_changed
  have H26 : HasF l.prog w K mg base 3 "is_term" ⟨F_is_term, 1, false⟩ := has_def (k := 2) F26 S_is_term b26 (PySem.W.mg_of X G a26) (mods bl cs (all_cons (HasF.lv (H5.mono (by decide))) (all_cons (HasF.lv (H4.mono (by decide))) (all_nil)))) C_is_term
  have H27 : HasF l.prog w K mg base 4 "is_action" ⟨F_is_action, 2, false⟩ := has_def (k := 3) F27 S_is_action b27 (PySem.W.mg_of X G a27) (mods bl cs (all_cons (HasF.lv (H11.mono (by decide))) (all_cons (HasF.lv (H2.mono (by decide))) (all_cons (HasF.lv (H10.mono (by decide))) (all_cons (HasF.lv (H26.mono (by decide))) (all_nil)))))) C_is_action
  have H28 : HasF l.prog w K mg base 5 "are_actions" ⟨F_are_actions, 2, false⟩ := has_def (k := 4) F28 S_are_actions b28 (PySem.W.mg_of X G a28) (mods bl cs (all_cons (HasF.lv (H2.mono (by decide))) (all_cons (HasF.lv (H13.mono (by decide))) (all_cons (HasF.lv (H27.mono (by decide))) (all_nil))))) C_are_actions
  have H29 : HasF l.prog w K mg base 6 "demand_actions" ⟨F_demand_actions, 3, false⟩ := has_def (k := 5) F29 S_demand_actions b29 (PySem.W.mg_of X G a29) (mods bl cs (all_cons (HasF.lv (H9.mono (by decide))) (all_cons (HasF.lv (H0.mono (by decide))) (all_cons (HasF.lv (H28.mono (by decide))) (all_nil))))) C_demand_actions
  have H30 : HasF l.prog w K mg base 5 "run" ⟨F_run, 3, false⟩ := has_def (k := 4) F30 S_run b30 (PySem.W.mg_of X G a30) (mods bl cs (all_cons (HasF.lv (H19.mono (by decide))) (all_cons (HasF.lv (H20.mono (by decide))) (all_nil)))) C_run
  have H31 : HasF l.prog w K mg base 7 "done" ⟨F_done, 3, false⟩ := has_def (k := 6) F31 S_done b31 (PySem.W.mg_of X G a31) (mods bl cs (all_cons (HasF.lv (H16.mono (by decide))) (all_cons (HasF.lv (H29.mono (by decide))) (all_cons (HasF.lv (H30.mono (by decide))) (all_nil))))) C_done
  have H32 : HasF l.prog w K mg base 7 "net" ⟨F_net, 3, false⟩ := has_def (k := 6) F32 S_net b32 (PySem.W.mg_of X G a32) (mods bl cs (all_cons (HasF.lv (H16.mono (by decide))) (all_cons (HasF.lv (H29.mono (by decide))) (all_cons (HasF.lv (H30.mono (by decide))) (all_cons (HasF.lv (H22.mono (by decide))) (all_nil)))))) C_net
  have H33 : HasF l.prog w K mg base 8 "taking_back" ⟨F_taking_back, 3, false⟩ := has_def (k := 7) F33 S_taking_back b33 (PySem.W.mg_of X G a33) (mods bl cs (all_cons (HasF.lv (H32.mono (by decide))) (all_nil))) C_taking_back
  have H34 : HasF l.prog w K mg base 8 "is_idle" ⟨F_is_idle, 3, false⟩ := has_def (k := 7) F34 S_is_idle b34 (PySem.W.mg_of X G a34) (mods bl cs (all_cons (HasF.lv (H32.mono (by decide))) (all_nil))) C_is_idle
  have H35 : HasF l.prog w K mg base 7 "settled" ⟨F_settled, 2, false⟩ := has_def (k := 6) F35 S_settled b35 (PySem.W.mg_of X G a35) (mods bl cs (all_cons (HasF.lv (H29.mono (by decide))) (all_nil))) C_settled
  have H36 : HasF l.prog w K mg base 6 "are_deeds" ⟨F_are_deeds, 2, false⟩ := has_def (k := 5) F36 S_are_deeds b36 (PySem.W.mg_of X G a36) (mods bl cs (all_cons (HasF.lv (H2.mono (by decide))) (all_cons (HasF.lv (H28.mono (by decide))) (all_nil)))) C_are_deeds
  have H37 : HasF l.prog w K mg base 7 "demand_deeds" ⟨F_demand_deeds, 3, false⟩ := has_def (k := 6) F37 S_demand_deeds b37 (PySem.W.mg_of X G a37) (mods bl cs (all_cons (HasF.lv (H9.mono (by decide))) (all_cons (HasF.lv (H0.mono (by decide))) (all_cons (HasF.lv (H36.mono (by decide))) (all_nil))))) C_demand_deeds
  have H38 : HasF l.prog w K mg base 1 "in_line" ⟨F_in_line, 1, false⟩ := has_def (k := 0) F38 S_in_line b38 (PySem.W.mg_of X G a38) (mods bl cs (all_nil)) C_in_line
  have H39 : HasF l.prog w K mg base 1 "last_ones" ⟨F_last_ones, 1, false⟩ := has_def (k := 0) F39 S_last_ones b39 (PySem.W.mg_of X G a39) (mods bl cs (all_nil)) C_last_ones
  have H40 : HasF l.prog w K mg base 6 "stores_along" ⟨F_stores_along, 3, false⟩ := has_def (k := 5) F40 S_stores_along b40 (PySem.W.mg_of X G a40) (mods bl cs (all_cons (HasF.lv (H30.mono (by decide))) (all_nil))) C_stores_along
  have H41 : HasF l.prog w K mg base 8 "along" ⟨F_along, 3, false⟩ := has_def (k := 7) F41 S_along b41 (PySem.W.mg_of X G a41) (mods bl cs (all_cons (HasF.lv (H16.mono (by decide))) (all_cons (HasF.lv (H37.mono (by decide))) (all_cons (HasF.lv (H40.mono (by decide))) (all_nil))))) C_along
  have H42 : HasF l.prog w K mg base 8 "at_once" ⟨F_at_once, 2, false⟩ := has_def (k := 7) F42 S_at_once b42 (PySem.W.mg_of X G a42) (mods bl cs (all_cons (HasF.lv (H37.mono (by decide))) (all_cons (HasF.lv (H39.mono (by decide))) (all_cons (HasF.lv (H38.mono (by decide))) (all_nil))))) C_at_once
  have H43 : HasF l.prog w K mg base 2 "demand_order" ⟨F_demand_order, 1, false⟩ := has_def (k := 1) F43 S_demand_order b43 (PySem.W.mg_of X G a43) (mods bl cs (all_cons (HasF.lv (H0.mono (by decide))) (all_cons (HasF.lv (H2.mono (by decide))) (all_cons (HasF.lv (H1.mono (by decide))) (all_nil))))) C_demand_order
  have H44 : HasF l.prog w K mg base 1 "term_by" ⟨F_term_by, 2, false⟩ := has_def (k := 0) F44 S_term_by b44 (PySem.W.mg_of X G a44) (mods bl cs (all_nil)) C_term_by
  have H45 : HasF l.prog w K mg base 2 "terms_by" ⟨F_terms_by, 2, false⟩ := has_def (k := 1) F45 S_terms_by b45 (PySem.W.mg_of X G a45) (mods bl cs (all_cons (HasF.lv (H44.mono (by decide))) (all_nil))) C_terms_by
  have H46 : HasF l.prog w K mg base 7 "renamed_store" ⟨F_renamed_store, 3, false⟩ := has_def (k := 6) F46 S_renamed_store b46 (PySem.W.mg_of X G a46) (mods bl cs (all_cons (HasF.lv (H16.mono (by decide))) (all_cons (HasF.lv (H43.mono (by decide))) (all_cons (HasF.lv (H45.mono (by decide))) (all_nil))))) C_renamed_store
  have H47 : HasF l.prog w K mg base 1 "_law_dice" ⟨F__law_dice, 2, false⟩ := has_def (k := 0) F47 S__law_dice b47 (PySem.W.mg_of X G a47) (mods bl cs (all_nil)) C__law_dice
  have H48 : HasF l.prog w K mg base 1 "_law_roll" ⟨F__law_roll, 2, false⟩ := has_def (k := 0) F48 S__law_roll b48 (PySem.W.mg_of X G a48) (mods bl cs (all_nil)) C__law_roll
  have H49 : HasF l.prog w K mg base 2 "_law_pick" ⟨F__law_pick, 2, false⟩ := has_def (k := 1) F49 S__law_pick b49 (PySem.W.mg_of X G a49) (mods bl cs (all_cons (HasF.lv (H48.mono (by decide))) (all_nil))) C__law_pick
  have H50 : HasF l.prog w K mg base 3 "_law_schema" ⟨F__law_schema, 1, false⟩ := has_def (k := 2) F50 S__law_schema b50 (PySem.W.mg_of X G a50) (mods bl cs (all_cons (HasF.lv (H48.mono (by decide))) (all_cons (HasF.lv (H49.mono (by decide))) (all_nil)))) C__law_schema
  have H51 : HasF l.prog w K mg base 2 "_law_row" ⟨F__law_row, 3, false⟩ := has_def (k := 1) F51 S__law_row b51 (PySem.W.mg_of X G a51) (mods bl cs (all_cons (HasF.lv (H48.mono (by decide))) (all_nil))) C__law_row
  have H52 : HasF l.prog w K mg base 3 "_law_store" ⟨F__law_store, 4, false⟩ := has_def (k := 2) F52 S__law_store b52 (PySem.W.mg_of X G a52) (mods bl cs (all_cons (HasF.lv (H48.mono (by decide))) (all_cons (HasF.lv (H51.mono (by decide))) (all_nil)))) C__law_store
  have H53 : HasF l.prog w K mg base 1 "_law_put" ⟨F__law_put, 5, false⟩ := has_def (k := 0) F53 S__law_put b53 (PySem.W.mg_of X G a53) (mods bl cs (all_nil)) C__law_put
  have H54 : HasF l.prog w K mg base 2 "_law_run" ⟨F__law_run, 3, false⟩ := has_def (k := 1) F54 S__law_run b54 (PySem.W.mg_of X G a54) (mods bl cs (all_cons (HasF.lv (H53.mono (by decide))) (all_nil))) C__law_run
  have H55 : HasF l.prog w K mg base 3 "_law_actions" ⟨F__law_actions, 4, false⟩ := has_def (k := 2) F55 S__law_actions b55 (PySem.W.mg_of X G a55) (mods bl cs (all_cons (HasF.lv (H48.mono (by decide))) (all_cons (HasF.lv (H49.mono (by decide))) (all_cons (HasF.lv (H51.mono (by decide))) (all_nil))))) C__law_actions
  have H56 : HasF l.prog w K mg base 1 "_law_last" ⟨F__law_last, 1, false⟩ := has_def (k := 0) F56 S__law_last b56 (PySem.W.mg_of X G a56) (mods bl cs (all_nil)) C__law_last
  have H57 : HasF l.prog w K mg base 1 "_law_moved" ⟨F__law_moved, 2, false⟩ := has_def (k := 0) F57 S__law_moved b57 (PySem.W.mg_of X G a57) (mods bl cs (all_nil)) C__law_moved
  have H58 : HasF l.prog w K mg base 1 "_law_back" ⟨F__law_back, 3, false⟩ := has_def (k := 0) F58 S__law_back b58 (PySem.W.mg_of X G a58) (mods bl cs (all_nil)) C__law_back
  have H59 : HasF l.prog w K mg base 9 "_law_case" ⟨F__law_case, 1, false⟩ := has_def (k := 8) F59 S__law_case b59 (PySem.W.mg_of X G a59) (mods bl cs (all_cons (HasF.lv (H50.mono (by decide))) (all_cons (HasF.lv (H32.mono (by decide))) (all_cons (HasF.lv (H33.mono (by decide))) (all_cons (HasF.lv (H46.mono (by decide))) (all_cons (HasF.lv (H52.mono (by decide))) (all_cons (HasF.lv (H55.mono (by decide))) (all_cons (HasF.lv (H54.mono (by decide))) (all_cons (HasF.lv (H23.mono (by decide))) (all_cons (HasF.lv (H41.mono (by decide))) (all_cons (HasF.lv (H31.mono (by decide))) (all_cons (HasF.lv (H35.mono (by decide))) (all_cons (HasF.lv (H56.mono (by decide))) (all_cons (HasF.lv (H42.mono (by decide))) (all_cons (HasF.lv (H25.mono (by decide))) (all_cons (HasF.lv (H34.mono (by decide))) (all_cons (HasF.lv (H58.mono (by decide))) (all_cons (HasF.lv (H57.mono (by decide))) (all_nil))))))))))))))))))) C__law_case
  have H60 : HasF l.prog w K mg base 10 "law" ⟨F_law, 1, false⟩ := has_def (k := 9) F60 S_law b60 (PySem.W.mg_of X G a60) (mods bl cs (all_cons (HasF.lv (H59.mono (by decide))) (all_cons (HasF.lv (H47.mono (by decide))) (all_nil)))) C_law
  have FL := def_ok F60 S_law (mods (k := 9) (base := base) (w := w) (P := l.prog) bl cs (all_cons (HasF.lv (H59.mono (by decide))) (all_cons (HasF.lv (H47.mono (by decide))) (all_nil)))) C_law
  exact top_ok FL fun ns hl => LW.law_ok LW.case_ok ns hl
end LW
open PySem PySem.W PyProof.Rows
set_option maxHeartbeats 0 in
theorem PySem.Challenge.cw_checksenough_k11_whole_deeds_behind_deed_holds : PySem.Challenge.rw_checksenough_k11_whole_deeds_behind_deed.Holds := by
  w_on; o_law; k_head; (case hw => w_witness2)
  k_fill
  refine L2.walk_of (l := PySem.Challenge.rw_checksenough_k11_whole_deeds_behind_deed) (n := 63) (k := 10) (x := "script") (CX := fun _ => L2.CX0) (sp := fun w => R.spTop _) rfl (by decide) rfl ⟨rfl, by decide, by decide⟩ (fun w h Y => PySem.W.kIn_of Y) ?F (fun _ _ a ns hl _ hS => ⟨a, ns, rfl, hS, hl, fun _ => rfl⟩) (fun _ _ _ _ _ h => h)
  case F =>
    intro w mg fa h KX G hmg
    refine' LW.all_mk KX G hmg ?a0 ?l0 ?c0 ?k0 ?a1 ?l1 ?c1 ?k1 ?a2 ?l2 ?c2 ?k2 ?a3 ?l3 ?c3 ?k3 ?a4 ?l4 ?c4 ?k4 ?a5 ?l5 ?c5 ?k5 ?a6 ?l6 ?c6 ?k6 ?a7 ?l7 ?c7 ?k7 ?a8 ?l8 ?c8 ?k8 ?a9 ?l9 ?c9 ?k9 ?a10 ?l10 ?c10 ?k10 ?a11 ?l11 ?c11 ?k11 ?a12 ?l12 ?c12 ?k12 ?a13 ?l13 ?c13 ?k13 ?a14 ?l14 ?c14 ?k14 ?a15 ?l15 ?c15 ?k15 ?a16 ?l16 ?c16 ?k16 ?a17 ?l17 ?c17 ?k17 ?a18 ?l18 ?c18 ?k18 ?a19 ?l19 ?c19 ?k19 ?a20 ?l20 ?c20 ?k20 ?a21 ?l21 ?c21 ?k21 ?a22 ?l22 ?c22 ?k22 ?a23 ?l23 ?c23 ?k23 ?a24 ?l24 ?c24 ?k24 ?a25 ?l25 ?c25 ?k25 ?a26 ?l26 ?c26 ?k26 ?a27 ?l27 ?c27 ?k27 ?a28 ?l28 ?c28 ?k28 ?a29 ?l29 ?c29 ?k29 ?a30 ?l30 ?c30 ?k30 ?a31 ?l31 ?c31 ?k31 ?a32 ?l32 ?c32 ?k32 ?a33 ?l33 ?c33 ?k33 ?a34 ?l34 ?c34 ?k34 ?a35 ?l35 ?c35 ?k35 ?a36 ?l36 ?c36 ?k36 ?a37 ?l37 ?c37 ?k37 ?a38 ?l38 ?c38 ?k38 ?a39 ?l39 ?c39 ?k39 ?a40 ?l40 ?c40 ?k40 ?a41 ?l41 ?c41 ?k41 ?a42 ?l42 ?c42 ?k42 ?a43 ?l43 ?c43 ?k43 ?a44 ?l44 ?c44 ?k44 ?a45 ?l45 ?c45 ?k45 ?a46 ?l46 ?c46 ?k46 ?a47 ?l47 ?c47 ?k47 ?a48 ?l48 ?c48 ?k48 ?a49 ?l49 ?c49 ?k49 ?a50 ?l50 ?c50 ?k50 ?a51 ?l51 ?c51 ?k51 ?a52 ?l52 ?c52 ?k52 ?a53 ?l53 ?c53 ?k53 ?a54 ?l54 ?c54 ?k54 ?a55 ?l55 ?c55 ?k55 ?a56 ?l56 ?c56 ?k56 ?a57 ?l57 ?c57 ?k57 ?a58 ?l58 ?c58 ?k58 ?a59 ?l59 ?c59 ?k59 ?a60 ?l60 ?c60 ?k60 ?z0 ?z1 ?z2 ?z3 ?z4 ?z5 ?z6 ?z7 ?z8 ?z9 ?z10 ?z11 ?z12 ?z13 ?z14 ?z15 ?z16 ?z17 ?z18 ?y0 ?y1 ?y2 ?y3 ?y4 ?y5 ?y6
    (case a0 => k_is); (case l0 => k_is); (case c0 => k_is); (case k0 => k_is); (case a1 => k_is); (case l1 => k_is); (case c1 => k_is); (case k1 => k_is); (case a2 => k_is); (case l2 => k_is); (case c2 => k_is); (case k2 => k_is); (case a3 => k_is); (case l3 => k_is); (case c3 => k_is); (case k3 => k_is); (case a4 => k_is); (case l4 => k_is); (case c4 => k_is); (case k4 => k_is); (case a5 => k_is); (case l5 => k_is); (case c5 => k_is); (case k5 => k_is); (case a6 => k_is); (case l6 => k_is); (case c6 => k_is); (case k6 => k_is); (case a7 => k_is); (case l7 => k_is); (case c7 => k_is); (case k7 => k_is); (case a8 => k_is); (case l8 => k_is); (case c8 => k_is); (case k8 => k_is); (case a9 => k_is); (case l9 => k_is); (case c9 => k_is); (case k9 => k_is); (case a10 => k_is); (case l10 => k_is); (case c10 => k_is); (case k10 => k_is); (case a11 => k_is); (case l11 => k_is); (case c11 => k_is); (case k11 => k_is); (case a12 => k_is); (case l12 => k_is); (case c12 => k_is); (case k12 => k_is); (case a13 => k_is); (case l13 => k_is); (case c13 => k_is); (case k13 => k_is); (case a14 => k_is); (case l14 => k_is); (case c14 => k_is); (case k14 => k_is); (case a15 => k_is); (case l15 => k_is); (case c15 => k_is); (case k15 => k_is); (case a16 => k_is); (case l16 => k_is); (case c16 => k_is); (case k16 => k_is); (case a17 => k_is); (case l17 => k_is); (case c17 => k_is); (case k17 => k_is); (case a18 => k_is); (case l18 => k_is); (case c18 => k_is); (case k18 => k_is); (case a19 => k_is); (case l19 => k_is); (case c19 => k_is); (case k19 => k_is); (case a20 => k_is); (case l20 => k_is); (case c20 => k_is); (case k20 => k_is); (case a21 => k_is); (case l21 => k_is); (case c21 => k_is); (case k21 => k_is); (case a22 => k_is); (case l22 => k_is); (case c22 => k_is); (case k22 => k_is); (case a23 => k_is); (case l23 => k_is); (case c23 => k_is); (case k23 => k_is); (case a24 => k_is); (case l24 => k_is); (case c24 => k_is); (case k24 => k_is); (case a25 => k_is); (case l25 => k_is); (case c25 => k_is); (case k25 => k_is); (case a26 => k_is); (case l26 => k_is); (case c26 => k_is); (case k26 => k_is); (case a27 => k_is); (case l27 => k_is); (case c27 => k_is); (case k27 => k_is); (case a28 => k_is); (case l28 => k_is); (case c28 => k_is); (case k28 => k_is); (case a29 => k_is); (case l29 => k_is); (case c29 => k_is); (case k29 => k_is); (case a30 => k_is); (case l30 => k_is); (case c30 => k_is); (case k30 => k_is); (case a31 => k_is); (case l31 => k_is); (case c31 => k_is); (case k31 => k_is); (case a32 => k_is); (case l32 => k_is); (case c32 => k_is); (case k32 => k_is); (case a33 => k_is); (case l33 => k_is); (case c33 => k_is); (case k33 => k_is); (case a34 => k_is); (case l34 => k_is); (case c34 => k_is); (case k34 => k_is); (case a35 => k_is); (case l35 => k_is); (case c35 => k_is); (case k35 => k_is); (case a36 => k_is); (case l36 => k_is); (case c36 => k_is); (case k36 => k_is); (case a37 => k_is); (case l37 => k_is); (case c37 => k_is); (case k37 => k_is); (case a38 => k_is); (case l38 => k_is); (case c38 => k_is); (case k38 => k_is); (case a39 => k_is); (case l39 => k_is); (case c39 => k_is); (case k39 => k_is); (case a40 => k_is); (case l40 => k_is); (case c40 => k_is); (case k40 => k_is); (case a41 => k_is); (case l41 => k_is); (case c41 => k_is); (case k41 => k_is); (case a42 => k_is); (case l42 => k_is); (case c42 => k_is); (case k42 => k_is); (case a43 => k_is); (case l43 => k_is); (case c43 => k_is); (case k43 => k_is); (case a44 => k_is); (case l44 => k_is); (case c44 => k_is); (case k44 => k_is); (case a45 => k_is); (case l45 => k_is); (case c45 => k_is); (case k45 => k_is); (case a46 => k_is); (case l46 => k_is); (case c46 => k_is); (case k46 => k_is); (case a47 => k_is); (case l47 => k_is); (case c47 => k_is); (case k47 => k_is); (case a48 => k_is); (case l48 => k_is); (case c48 => k_is); (case k48 => k_is); (case a49 => k_is); (case l49 => k_is); (case c49 => k_is); (case k49 => k_is); (case a50 => k_is); (case l50 => k_is); (case c50 => k_is); (case k50 => k_is); (case a51 => k_is); (case l51 => k_is); (case c51 => k_is); (case k51 => k_is); (case a52 => k_is); (case l52 => k_is); (case c52 => k_is); (case k52 => k_is); (case a53 => k_is); (case l53 => k_is); (case c53 => k_is); (case k53 => k_is); (case a54 => k_is); (case l54 => k_is); (case c54 => k_is); (case k54 => k_is); (case a55 => k_is); (case l55 => k_is); (case c55 => k_is); (case k55 => k_is); (case a56 => k_is); (case l56 => k_is); (case c56 => k_is); (case k56 => k_is); (case a57 => k_is); (case l57 => k_is); (case c57 => k_is); (case k57 => k_is); (case a58 => k_is); (case l58 => k_is); (case c58 => k_is); (case k58 => k_is); (case a59 => k_is); (case l59 => k_is); (case c59 => k_is); (case k59 => k_is); (case a60 => k_is); (case l60 => k_is); (case c60 => k_is); (case k60 => k_is); (case z0 => k_is); (case z1 => k_is); (case z2 => k_is); (case z3 => k_is); (case z4 => k_is); (case z5 => k_is); (case z6 => k_is); (case z7 => k_is); (case z8 => k_is); (case z9 => k_is); (case z10 => k_is); (case z11 => k_is); (case z12 => k_is); (case z13 => k_is); (case z14 => k_is); (case z15 => k_is); (case z16 => k_is); (case z17 => k_is); (case z18 => k_is); (case y0 => k_is); (case y1 => k_is); (case y2 => k_is); (case y3 => k_is); (case y4 => k_is); (case y5 => k_is); (case y6 => k_is)
