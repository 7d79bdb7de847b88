import PyProof.Rows.All
import Wide.All
import OpenK.AllK
import Wide.FinOn
import HandS.ForMost
import HandS.Deep
import HandS.IsInst
import HandS.TupAny
import HandS.TupLe
import HandS.TupMul
import KE.SortData
import KE.LtData
import HandS.SortOrd
import HandS.SortRule
import HandS.Iter
import HandS.Flow
import HandS.SortInts
import HandS.SetFor
import KE.GoesEnum
import HandS.Style
import HandS.Conv
import HandS.Words
import PySem.Challenge.RW_checksenough_k43_whole_numbers_of_cases
set_option Elab.async false
set_option linter.all false
set_option maxRecDepth 100000
set_option maxHeartbeats 2000000
/-! R1: data, worlds, what stands for what -/
namespace R
open PySem PySem.Spec PyProof.Rows L2

inductive D where
  | non | bl (b : Bool) | int (i : Int) | str (s : Str)
  | tup (xs : List D) | lst (xs : List D) | dct (ks : List Key) (vs : List D) | obj (n : Nat) | scr (xs : List D)

mutual
inductive Rep (K : PySem.W.Frag) (G : Hp) (al : List Addr) : V → D → Prop
  | non : Rep K G al .non .non
  | bl (b : Bool) : Rep K G al (.bl b) (.bl b)
  | int (i : Int) : Rep K G al (.int i) (.int i)
  | str (x : Str) (h : PyData.strOk x = true) : Rep K G al (.str x) (.str x)
  | tup {a : Addr} {vs : List V} {ds : List D} (h : SqT K G a vs) (r : Reps K G al vs ds) : Rep K G al (.ref a) (.tup ds)
  | lst {a : Addr} {vs : List V} {ds : List D} (h : G a = some (.lst vs)) (r : Reps K G al vs ds) : Rep K G al (.ref a) (.lst ds)
  | scr {a : Addr} {vs : List V} {ds : List D} (h : SqL K G a vs) (r : Reps K G al vs ds) : Rep K G al (.ref a) (.scr ds)
  | dct {a : Addr} {kvs : List (Key × V)} {ds : List D} (h : G a = some (.dK kvs)) (r : Reps K G al (kvs.map (·.2)) ds) : Rep K G al (.ref a) (.dct (kvs.map (·.1)) ds)
  | obj {n : Nat} {a : Addr} (h : al[n]? = some a) : Rep K G al (.ref a) (.obj n)
inductive Reps (K : PySem.W.Frag) (G : Hp) (al : List Addr) : List V → List D → Prop
  | nil : Reps K G al [] []
  | cons {v : V} {vs : List V} {d : D} {ds : List D} : Rep K G al v d → Reps K G al vs ds → Reps K G al (v :: vs) (d :: ds)
end

/-- nothing is lost -/
def Le (G H : Hp) : Prop := ∀ a o, G a = some o → H a = some o
theorem Le.refl (G : Hp) : Le G G := fun _ _ h => h
theorem Le.trans {G H J : Hp} (a : Le G H) (b : Le H J) : Le G J := fun x o h => b x o (a x o h)
theorem Le.upd {G : Hp} {p : Addr} {o : HO} (h : G p = none) : Le G (L2.upd G p o) := fun a u e => by
  rw [upd_ne (ne_of_none e h)]
  exact e
theorem Le.sqL {K : PySem.W.Frag} {G H : Hp} {a : Addr} {xs : List V} (e : Le G H) (h : SqL K G a xs) : SqL K H a xs := by
  rcases h with (h | ⟨o, h⟩) | h
  · exact .inl (.inl (e _ _ h))
  · exact .inl (.inr ⟨o, e _ _ h⟩)
  · exact .inr h
theorem Le.sqT {K : PySem.W.Frag} {G H : Hp} {a : Addr} {xs : List V} (e : Le G H) (h : SqT K G a xs) : SqT K H a xs := by
  rcases h with (h | ⟨o, h⟩) | h
  · exact .inl (.inl (e _ _ h))
  · exact .inl (.inr ⟨o, e _ _ h⟩)
  · exact .inr h
def Pre (al al' : List Addr) : Prop := ∃ more, al' = al ++ more
theorem Pre.refl (al : List Addr) : Pre al al := ⟨[], by simp⟩
theorem Pre.trans {a b c : List Addr} : Pre a b → Pre b c → Pre a c
  | ⟨m, e⟩, ⟨n, f⟩ => ⟨m ++ n, by rw [f, e, List.append_assoc]⟩
theorem Pre.get {al al' : List Addr} {n : Nat} {a : Addr} : Pre al al' → al[n]? = some a → al'[n]? = some a
  | ⟨m, e⟩, h => by
    obtain ⟨hl, _⟩ := List.getElem?_eq_some_iff.mp h
    rw [e, List.getElem?_append_left hl]
    exact h

mutual
theorem Rep.mono {K : PySem.W.Frag} {G G' : Hp} {al al' : List Addr} (hG : Le G G') (ha : Pre al al') : ∀ {v : V} {d : D}, Rep K G al v d → Rep K G' al' v d
  | _, _, .non => .non
  | _, _, .bl b => .bl b
  | _, _, .int i => .int i
  | _, _, .str x h => .str x h
  | _, _, .tup h r => .tup (hG.sqT h) (Reps.mono hG ha r)
  | _, _, .lst h r => .lst (hG _ _ h) (Reps.mono hG ha r)
  | _, _, .scr h r => .scr (hG.sqL h) (Reps.mono hG ha r)
  | _, _, .dct h r => .dct (hG _ _ h) (Reps.mono hG ha r)
  | _, _, .obj h => .obj (ha.get h)
theorem Reps.mono {K : PySem.W.Frag} {G G' : Hp} {al al' : List Addr} (hG : Le G G') (ha : Pre al al') : ∀ {vs : List V} {ds : List D}, Reps K G al vs ds → Reps K G' al' vs ds
  | _, _, .nil => .nil
  | _, _, .cons h r => .cons (Rep.mono hG ha h) (Reps.mono hG ha r)
end
section
variable {K : PySem.W.Frag} {G : Hp} {al : List Addr} {v : V} {vs ws : List V} {d : D} {ds es : List D}
theorem Reps.length : ∀ {vs : List V} {ds : List D}, Reps K G al vs ds → vs.length = ds.length
  | _, _, .nil => rfl
  | _, _, .cons _ r => by rw [List.length_cons, List.length_cons, Reps.length r]
theorem Reps.get : ∀ {vs : List V} {ds : List D} {i : Nat} {d : D}, Reps K G al vs ds → ds[i]? = some d → ∃ v, vs[i]? = some v ∧ Rep K G al v d
  | _, _, _, _, .nil, h => by simp at h
  | _, _, 0, _, .cons h r, e => by
    simp at e
    subst e
    exact ⟨_, rfl, h⟩
  | _, _, i + 1, _, .cons h r, e => by
    obtain ⟨v, a, b⟩ := Reps.get (i := i) r (by simpa using e)
    exact ⟨v, by simpa using a, b⟩
theorem Reps.getV : ∀ {vs : List V} {ds : List D} {i : Nat} {v : V}, Reps K G al vs ds → vs[i]? = some v → ∃ d, ds[i]? = some d ∧ Rep K G al v d
  | _, _, _, _, .nil, h => by simp at h
  | _, _, 0, _, .cons h r, e => by
    simp at e
    subst e
    exact ⟨_, rfl, h⟩
  | _, _, i + 1, _, .cons h r, e => by
    obtain ⟨v, a, b⟩ := Reps.getV (i := i) r (by simpa using e)
    exact ⟨v, by simpa using a, b⟩
theorem Reps.append : ∀ {vs ws : List V} {ds es : List D}, Reps K G al vs ds → Reps K G al ws es → Reps K G al (vs ++ ws) (ds ++ es)
  | _, _, _, _, .nil, s => s
  | _, _, _, _, .cons h r, s => .cons h (Reps.append r s)
theorem Reps.take : ∀ {vs : List V} {ds : List D} (n : Nat), Reps K G al vs ds → Reps K G al (vs.take n) (ds.take n)
  | _, _, 0, _ => by simpa using Reps.nil
  | _, _, _ + 1, .nil => by simpa using Reps.nil
  | _, _, n + 1, .cons h r => by simpa using Reps.cons h (Reps.take n r)
theorem Reps.drop : ∀ {vs : List V} {ds : List D} (n : Nat), Reps K G al vs ds → Reps K G al (vs.drop n) (ds.drop n)
  | _, _, 0, r => by simpa using r
  | _, _, _ + 1, .nil => by simpa using Reps.nil
  | _, _, n + 1, .cons h r => by simpa using Reps.drop n r
theorem Reps.reverse : ∀ {vs : List V} {ds : List D}, Reps K G al vs ds → Reps K G al vs.reverse ds.reverse
  | _, _, .nil => .nil
  | _, _, .cons h r => by
    rw [List.reverse_cons, List.reverse_cons]
    exact Reps.append (Reps.reverse r) (.cons h .nil)
theorem Reps.set : ∀ {vs : List V} {ds : List D} {v : V} {d : D} (i : Nat), Rep K G al v d → Reps K G al vs ds → Reps K G al (vs.set i v) (ds.set i d)
  | _, _, _, _, _, _, .nil => .nil
  | _, _, _, _, 0, q, .cons _ r => .cons q r
  | _, _, _, _, i + 1, q, .cons h r => .cons h (Reps.set i q r)
theorem Reps.snoc (r : Reps K G al vs ds) (h : Rep K G al v d) : Reps K G al (vs ++ [v]) (ds ++ [d]) := r.append (.cons h .nil)
end

/-- the objects that may change and live on: a list, an instance -/
inductive MO where
  | lst (ds : List D)
  | ins (C : Addr) (fs : List (Str × D))

/-- what is frozen; what is others'; the frame's own lists; the living objects -/
structure Wd where
  G : Hp
  B : Hp
  O : Hp
  al : List Addr

inductive MoOk (K : PySem.W.Frag) (G : Hp) (al : List Addr) (H : Hp) (a : Addr) : MO → Prop
  | lst {vs : List V} {ds : List D} (h : H a = some (.lst vs)) (r : Reps K G al vs ds) : MoOk K G al H a (.lst ds)
  | ins {C dx : Addr} {fs : List (Str × V)} {ds : List D} (h : H a = some (.ins C dx fs)) (r : Reps K G al (fs.map (·.2)) ds) : MoOk K G al H a (.ins C ((fs.map (·.1)).zip ds))

/-- a list or dict of the frame's own, as it stands -/
inductive Ow (K : PySem.W.Frag) (G : Hp) (al : List Addr) : HO → D → Prop
  | lst {vs : List V} {ds : List D} (r : Reps K G al vs ds) : Ow K G al (.lst vs) (.lst ds)
  | dct {kvs : List (Key × V)} {ds : List D} (r : Reps K G al (kvs.map (·.2)) ds) : Ow K G al (.dK kvs) (.dct (kvs.map (·.1)) ds)
theorem Ow.mono {K : PySem.W.Frag} {G G' : Hp} {al al' : List Addr} {o : HO} {d : D} (hG : Le G G') (ha : Pre al al') : Ow K G al o d → Ow K G' al' o d
  | .lst r => .lst (r.mono hG ha)
  | .dct r => .dct (r.mono hG ha)
theorem MoOk.mono {K : PySem.W.Frag} {G G' H H' : Hp} {al al' : List Addr} {a : Addr} {m : MO} (hG : Le G G') (ha : Pre al al') (e : H' a = H a) : MoOk K G al H a m → MoOk K G' al' H' a m
  | .lst h r => .lst (e.trans h) (r.mono hG ha)
  | .ins h r => .ins (e.trans h) (r.mono hG ha)

structure Rw (K : PySem.W.Frag) (W : Wd) (M : List MO) (H : Hp) : Prop where
  g : Le W.G H
  b : Le W.B H
  o : Le W.O H
  gb : ∀ a, W.G a ≠ none → W.B a = none ∧ W.O a = none
  bo : ∀ a, W.B a ≠ none → W.O a = none
  ag : ∀ a ∈ W.al, W.G a = none ∧ W.B a = none ∧ W.O a = none
  nd : W.al.Nodup
  ml : W.al.length = M.length
  mo : ∀ (n : Nat) (a : Addr) (m : MO), W.al[n]? = some a → M[n]? = some m → MoOk K W.G W.al H a m

/-- a step of the world -/
structure Evo (W W' : Wd) : Prop where
  g : Le W.G W'.G
  b : W'.B = W.B
  o : W'.O = W.O
  al : Pre W.al W'.al
theorem Evo.refl (W : Wd) : Evo W W := ⟨Le.refl _, rfl, rfl, Pre.refl _⟩
theorem Evo.trans {W W1 W2 : Wd} (a : Evo W W1) (b : Evo W1 W2) : Evo W W2 := ⟨a.g.trans b.g, b.b.trans a.b, b.o.trans a.o, a.al.trans b.al⟩
abbrev RepW (K : PySem.W.Frag) (W : Wd) (v : V) (d : D) : Prop := Rep K W.G W.al v d
abbrev RepsW (K : PySem.W.Frag) (W : Wd) (v : List V) (d : List D) : Prop := Reps K W.G W.al v d
theorem Rep.evo {K : PySem.W.Frag} {W W' : Wd} {v : V} {d : D} (h : RepW K W v d) (e : Evo W W') : RepW K W' v d := Rep.mono e.g e.al h
theorem Reps.evo {K : PySem.W.Frag} {W W' : Wd} {v : List V} {d : List D} (h : RepsW K W v d) (e : Evo W W') : RepsW K W' v d := Reps.mono e.g e.al h

/-- a frame's slots -/
inductive Sl where
  | no | fz (d : D) | own (d : D)
inductive SlOk (K : PySem.W.Frag) (W : Wd) : Sl → Option (Option V) → Prop
  | no {x : Option V} : SlOk K W .no (some x)
  | fz {v : V} {d : D} (h : RepW K W v d) : SlOk K W (.fz d) (some (some v))
  | own {a : Addr} {o : HO} {d : D} (h : W.O a = some o) (r : Ow K W.G W.al o d) : SlOk K W (.own d) (some (some (.ref a)))
structure Re (K : PySem.W.Frag) (W : Wd) (env : List Sl) (σ : L2.St) : Prop where
  len : σ.length = env.length
  at_ : ∀ (i : Nat) (s : Sl), env[i]? = some s → SlOk K W s σ[i]?
  inj : ∀ (i j : Nat) (d e : D) (a : Addr), env[i]? = some (.own d) → env[j]? = some (.own e) → σ[i]? = some (some (.ref a)) → σ[j]? = some (some (.ref a)) → i = j
theorem SlOk.evo {K : PySem.W.Frag} {W W' : Wd} {s : Sl} {x : Option (Option V)} (h : SlOk K W s x) (e : Evo W W') : SlOk K W' s x := by
  cases h with
  | no => exact .no
  | fz h => exact .fz (h.evo e)
  | own h r => exact .own (by rw [e.o]; exact h) (r.mono e.g e.al)
theorem Re.evo {K : PySem.W.Frag} {W W' : Wd} {env : List Sl} {σ : L2.St} (h : Re K W env σ) (e : Evo W W') : Re K W' env σ :=
  ⟨h.len, fun i s q => (h.at_ i s q).evo e, h.inj⟩

/-- a value of an expression: new and not yet known to anybody, or frozen -/
inductive RepR (K : PySem.W.Frag) (W : Wd) (H : Hp) : D × Bool → V → Prop
  | old {v : V} {d : D} (h : RepW K W v d) : RepR K W H (d, false) v
  | new {a : Addr} {o : HO} {d : D} (h : H a = some o) (r : Ow K W.G W.al o d) (g : W.G a = none) (b : W.B a = none) (oo : W.O a = none) (m : a ∉ W.al) : RepR K W H (d, true) (.ref a)
/-- .. that is looked at: frozen, or one of the frame's own -/
inductive RepP (K : PySem.W.Frag) (W : Wd) : V → D → Prop
  | fz {v : V} {d : D} (h : RepW K W v d) : RepP K W v d
  | own {a : Addr} {o : HO} {d : D} (h : W.O a = some o) (r : Ow K W.G W.al o d) : RepP K W (.ref a) d
theorem RepP.evo {K : PySem.W.Frag} {W W' : Wd} {v : V} {d : D} (h : RepP K W v d) (e : Evo W W') : RepP K W' v d := by
  cases h with
  | fz h => exact .fz (h.evo e)
  | own h r => exact .own (by rw [e.o]; exact h) (r.mono e.g e.al)

/-- what is new is frozen -/
theorem Rw.freeze {K : PySem.W.Frag} {W : Wd} {M : List MO} {H : Hp} (w : Rw K W M H) {a : Addr} {o : HO} (h : H a = some o) (g : W.G a = none) (b : W.B a = none) (oo : W.O a = none) (m : a ∉ W.al) :
    Evo W { W with G := upd W.G a o } ∧ Rw K { W with G := upd W.G a o } M H := by
  have e : Evo W { W with G := upd W.G a o } := ⟨Le.upd g, rfl, rfl, Pre.refl _⟩
  refine ⟨e, ⟨fun c u q => ?_, w.b, w.o, fun c q => ?_, w.bo, fun c hc => ?_, w.nd, w.ml, fun n c mm h1 h2 => (w.mo n c mm h1 h2).mono e.g e.al rfl⟩⟩
  · by_cases z : c = a
    · subst z
      have q' : upd W.G c o c = some u := q
      rw [upd_same] at q'
      cases q'
      exact h
    · have q' : upd W.G a o c = some u := q
      rw [upd_ne z] at q'
      exact w.g _ _ q'
  · by_cases z : c = a
    · subst z
      exact ⟨b, oo⟩
    · have q' : upd W.G a o c ≠ none := q
      rw [upd_ne z] at q'
      exact w.gb c q'
  · have z : c ≠ a := fun z => m (z ▸ hc)
    obtain ⟨h1, h2, h3⟩ := w.ag c hc
    refine ⟨?_, h2, h3⟩
    show upd W.G a o c = none
    rw [upd_ne z]
    exact h1
theorem Ow.rep {K : PySem.W.Frag} {G : Hp} {al : List Addr} {a : Addr} {o : HO} {d : D} (h : G a = some o) : Ow K G al o d → Rep K G al (.ref a) d
  | .lst r => .lst h r
  | .dct r => .dct h r
theorem RepR.freeze {K : PySem.W.Frag} {W : Wd} {M : List MO} {H : Hp} {r : D × Bool} {v : V} (h : RepR K W H r v) (w : Rw K W M H) : ∃ W', Evo W W' ∧ Rw K W' M H ∧ RepW K W' v r.1 := by
  cases h with
  | old h => exact ⟨W, Evo.refl W, w, h⟩
  | new h r g b oo m =>
    obtain ⟨e, w'⟩ := w.freeze h g b oo m
    exact ⟨_, e, w', (r.mono e.g e.al).rep upd_same⟩

/-- a new object comes: what is known stays -/
theorem Rw.fresh {K : PySem.W.Frag} {W : Wd} {M : List MO} {H : Hp} (w : Rw K W M H) {p : Addr} (hp : H p = none) : W.G p = none ∧ W.B p = none ∧ W.O p = none ∧ p ∉ W.al := by
  have f : ∀ {G : Hp}, Le G H → G p = none := fun {G} l => by
    cases q : G p with
    | none => rfl
    | some o =>
      rw [l _ _ q] at hp
      cases hp
  refine ⟨f w.g, f w.b, f w.o, fun hm => ?_⟩
  obtain ⟨n, hn⟩ := List.getElem?_of_mem hm
  have hl : n < M.length := by
    rw [← w.ml]
    exact (List.getElem?_eq_some_iff.mp hn).1
  have z := w.mo n p M[n] hn (List.getElem?_eq_getElem hl)
  generalize M[n] = m at z
  cases z with
  | lst h _ =>
    rw [h] at hp
    cases hp
  | ins h _ =>
    rw [h] at hp
    cases hp
theorem Rw.new {K : PySem.W.Frag} {W : Wd} {M : List MO} {H : Hp} (w : Rw K W M H) {p : Addr} (hp : H p = none) (o : HO) : Rw K W M (upd H p o) := by
  have l : Le H (upd H p o) := Le.upd hp
  refine ⟨w.g.trans l, w.b.trans l, w.o.trans l, w.gb, w.bo, w.ag, w.nd, w.ml, fun n a m h1 h2 => (w.mo n a m h1 h2).mono (Le.refl _) (Pre.refl _) (upd_ne fun z => ?_)⟩
  subst z
  exact (w.fresh hp).2.2.2 (List.mem_of_getElem? h1)
end R

set_option Elab.async false
set_option linter.all false
set_option maxRecDepth 100000
set_option maxHeartbeats 2000000
/-! R2: readings of compiled expressions -/
namespace R
open PySem PySem.Spec PyProof.Rows L2

abbrev Env := List Sl
abbrev EE := Env → List MO → Option ((D × Bool) × List MO)
abbrev EP := Env → List MO → Option (D × List MO)
abbrev EB := Env → List MO → Option (Bool × List MO)
abbrev EL := Env → List MO → Option (List D × List MO)

section
variable (K : PySem.W.Frag)
def tE (f : EE) : TE := fun σ H Q => ∃ W env M r M', Rw K W M H ∧ Re K W env σ ∧ f env M = some (r, M') ∧ ∀ v H' W', Evo W W' → Rw K W' M' H' → RepR K W' H' r v → Q v H'
def tF (f : EP) : TE := fun σ H Q => ∃ W env M d M', Rw K W M H ∧ Re K W env σ ∧ f env M = some (d, M') ∧ ∀ v H' W', Evo W W' → Rw K W' M' H' → RepW K W' v d → Q v H'
def tP (f : EP) : TE := fun σ H Q => ∃ W env M d M', Rw K W M H ∧ Re K W env σ ∧ f env M = some (d, M') ∧ ∀ v H' W', Evo W W' → Rw K W' M' H' → RepP K W' v d → Q v H'
def tT (f : EB) : TT := fun σ H Q => ∃ W env M b M', Rw K W M H ∧ Re K W env σ ∧ f env M = some (b, M') ∧ ∀ H' W', Evo W W' → Rw K W' M' H' → Q b H'
def tL (f : EL) : TA := fun σ H Q => ∃ W env M ds M', Rw K W M H ∧ Re K W env σ ∧ f env M = some (ds, M') ∧ ∀ vs H' W', Evo W W' → Rw K W' M' H' → RepsW K W' vs ds → Q vs H'
/-- .. looked at -/
inductive RepPs (K : PySem.W.Frag) (W : Wd) : List V → List D → Prop
  | nil : RepPs K W [] []
  | cons {v : V} {d : D} {vs : List V} {ds : List D} : RepP K W v d → RepPs K W vs ds → RepPs K W (v :: vs) (d :: ds)
def tLP (f : EL) : TA := fun σ H Q => ∃ W env M ds M', Rw K W M H ∧ Re K W env σ ∧ f env M = some (ds, M') ∧ ∀ vs H' W', Evo W W' → Rw K W' M' H' → RepPs K W' vs ds → Q vs H'
end

theorem PE.imp {X : Cx} {e : Expr} {t t' : TE} (h : PE X e t) (i : ∀ σ H Q, t' σ H Q → t σ H Q) : PE X e t' := ⟨fun pins s σ H Q I q => h.run pins s σ H Q I (i σ H Q q)⟩
theorem PT.imp {X : Cx} {e : Expr} {t t' : TT} (h : PT X e t) (i : ∀ σ H Q, t' σ H Q → t σ H Q) : PT X e t' := ⟨fun pins s σ H Q I q => h.run pins s σ H Q I (i σ H Q q)⟩
theorem PA.imp {X : Cx} {e : List Expr} {t t' : TA} (h : PA X e t) (i : ∀ σ H Q, t' σ H Q → t σ H Q) : PA X e t' := ⟨fun pos pins s σ H Q I q => h.run pos pins s σ H Q I (i σ H Q q)⟩
theorem PS.imp {X : Cx} {e : Stmt} {t t' : TS} (h : PS X e t) (i : ∀ D σ H, t' D σ H → t D σ H) : PS X e t' := ⟨fun pins s σ H D I q => h.run pins s σ H D I (i D σ H q)⟩
theorem PSs.imp {X : Cx} {e : List Stmt} {t t' : TS} (h : PSs X e t) (i : ∀ D σ H, t' D σ H → t D σ H) : PSs X e t' := ⟨fun pins s σ H D I q => h.run pins s σ H D I (i D σ H q)⟩
theorem PI.imp {X : Cx} {tg e : Expr} {t t' : TI} (h : PI X tg e t) (i : ∀ σ H Q, t' σ H Q → t σ H Q) : PI X tg e t' := ⟨fun pins s σ H Q I q => h.run pins s σ H Q I (i σ H Q q)⟩

/-! ### coercions -/
def eFz (f : EE) : EP := fun env M => (f env M).map fun r => (r.1.1, r.2)
def eOld (f : EP) : EE := fun env M => (f env M).map fun r => ((r.1, false), r.2)
section
variable {K : PySem.W.Frag} {W : Wd} {M : List MO} {H : Hp} {v : V}
theorem tF_of_tE {f : EE} {σ : L2.St} {H : Hp} {Q : VK} (h : tF K (eFz f) σ H Q) : tE K f σ H Q := by
  obtain ⟨W, env, M, d, M', w, re, e, q⟩ := h
  unfold eFz at e
  cases hf : f env M with
  | none =>
    rw [hf] at e
    cases e
  | some p =>
    obtain ⟨r, M1⟩ := p
    rw [hf] at e
    cases e
    refine ⟨W, env, M, r, _, w, re, hf, fun v H' W' e1 w1 rr => ?_⟩
    obtain ⟨W2, e2, w2, r2⟩ := rr.freeze w1
    exact q v H' W2 (e1.trans e2) w2 r2
theorem tP_of_tF {f : EP} {σ : L2.St} {H : Hp} {Q : VK} (h : tP K f σ H Q) : tF K f σ H Q := by
  obtain ⟨W, env, M, d, M', w, re, e, q⟩ := h
  exact ⟨W, env, M, d, M', w, re, e, fun v H' W' e1 w1 r => q v H' W' e1 w1 (.fz r)⟩
theorem tE_of_tF {f : EP} {σ : L2.St} {H : Hp} {Q : VK} (h : tE K (eOld f) σ H Q) : tF K f σ H Q := by
  obtain ⟨W, env, M, r, M', w, re, e, q⟩ := h
  unfold eOld at e
  cases hf : f env M with
  | none =>
    rw [hf] at e
    cases e
  | some p =>
    obtain ⟨d, M1⟩ := p
    rw [hf] at e
    cases e
    exact ⟨W, env, M, d, _, w, re, hf, fun v H' W' e1 w1 rr => q v H' W' e1 w1 (.old rr)⟩
end
section
variable {X : Cx} {e : Expr}
theorem pFz {f : EE} (h : PE X e (tE X.K f)) : PE X e (tF X.K (eFz f)) := PE.imp h fun _ _ _ => tF_of_tE
theorem pPk {f : EP} (h : PE X e (tF X.K f)) : PE X e (tP X.K f) := PE.imp h fun _ _ _ => tP_of_tF
theorem pOld {f : EP} (h : PE X e (tF X.K f)) : PE X e (tE X.K (eOld f)) := PE.imp h fun _ _ _ => tE_of_tF
end

/-! ### what a looked at value is -/
section
variable {K : PySem.W.Frag} {W : Wd} {M : List MO} {H : Hp} {v : V}
theorem RepP.int {i : Int} (h : RepP K W v (.int i)) : v = .int i := by
  cases h with
  | fz h => cases h; rfl
  | own h r => cases r
theorem RepP.bl {i : Bool} (h : RepP K W v (.bl i)) : v = .bl i := by
  cases h with
  | fz h => cases h; rfl
  | own h r => cases r
theorem RepP.str {i : Str} (h : RepP K W v (.str i)) : v = .str i ∧ PyData.strOk i = true := by
  cases h with
  | fz h => cases h with | str _ h => exact ⟨rfl, h⟩
  | own h r => cases r
theorem RepP.non (h : RepP K W v .non) : v = .non := by
  cases h with
  | fz h => cases h; rfl
  | own h r => cases r
theorem RepP.tup {ds : List D} (w : Rw K W M H) (h : RepP K W v (.tup ds)) : ∃ a vs, v = .ref a ∧ SqT K H a vs ∧ RepsW K W vs ds := by
  cases h with
  | fz h => cases h with | tup h r => exact ⟨_, _, rfl, w.g.sqT h, r⟩
  | own h r => cases r
theorem RepP.lst {ds : List D} (w : Rw K W M H) (h : RepP K W v (.lst ds)) : ∃ a vs, v = .ref a ∧ H a = some (.lst vs) ∧ RepsW K W vs ds := by
  cases h with
  | fz h => cases h with | lst h r => exact ⟨_, _, rfl, w.g _ _ h, r⟩
  | own h r => cases r with | lst r => exact ⟨_, _, rfl, w.o _ _ h, r⟩
theorem RepP.scr {ds : List D} (w : Rw K W M H) (h : RepP K W v (.scr ds)) : ∃ a vs, v = .ref a ∧ SqL K H a vs ∧ RepsW K W vs ds := by
  cases h with
  | fz h => cases h with | scr h r => exact ⟨_, _, rfl, w.g.sqL h, r⟩
  | own h r => cases r
theorem RepP.dct {ks : List Key} {ds : List D} (w : Rw K W M H) (h : RepP K W v (.dct ks ds)) : ∃ a kvs, v = .ref a ∧ H a = some (.dK kvs) ∧ ks = kvs.map (·.1) ∧ RepsW K W (kvs.map (·.2)) ds := by
  cases h with
  | fz h => cases h with | dct h r => exact ⟨_, _, rfl, w.g _ _ h, rfl, r⟩
  | own h r => cases r with | dct r => exact ⟨_, _, rfl, w.o _ _ h, rfl, r⟩
theorem RepP.obj {n : Nat} (h : RepP K W v (.obj n)) : ∃ a, v = .ref a ∧ W.al[n]? = some a := by
  cases h with
  | fz h => cases h with | obj h => exact ⟨_, rfl, h⟩
  | own h r => cases r
theorem RepP.one {x : List V} {d : D} (h : RepPs K W x [d]) : ∃ v, x = [v] ∧ RepP K W v d := by
  cases h with | cons a b => cases b; exact ⟨_, rfl, a⟩
theorem RepPs.two {x : List V} {d e : D} (h : RepPs K W x [d, e]) : ∃ v u, x = [v, u] ∧ RepP K W v d ∧ RepP K W u e := by
  cases h with | cons a b => cases b with | cons b c => cases c; exact ⟨_, _, rfl, a, b⟩
/-- a new list, dict -/
theorem Rw.newL {p : Addr} {o : HO} {d : D} (w : Rw K W M H) (hp : H p = none) (r : Ow K W.G W.al o d) : Rw K W M (upd H p o) ∧ RepR K W (upd H p o) (d, true) (.ref p) := by
  obtain ⟨a, b, c, m⟩ := w.fresh hp
  exact ⟨w.new hp o, .new upd_same r a b c m⟩
/-- a new tuple -/
theorem Rw.newT {p : Addr} {vs : List V} {ds : List D} (w : Rw K W M H) (hp : H p = none) (r : RepsW K W vs ds) :
    ∃ W', Evo W W' ∧ Rw K W' M (upd H p (.tup vs)) ∧ RepW K W' (.ref p) (.tup ds) := by
  obtain ⟨a, b, c, m⟩ := w.fresh hp
  obtain ⟨e, w'⟩ := (w.new hp (.tup vs)).freeze (a := p) upd_same a b c m
  exact ⟨_, e, w', .tup (.inl (.inl upd_same)) (r.mono e.g e.al)⟩
end

/-! ### names, constants -/
def eVar (i : Nat) : EP := fun env M => match env[i]? with
  | some (.fz d) => some (d, M)
  | _ => none
def ePk (i : Nat) : EP := fun env M => match env[i]? with
  | some (.fz d) => some (d, M)
  | some (.own d) => some (d, M)
  | _ => none
def eCst (d : D) : EP := fun _ M => some (d, M)
section
variable {X : Cx} {e a b : Expr} {pos : Pos}
theorem pVar {i : Nat} {x : Str} (hN : X.N[i]? = some x) (hv : Vis X.env.scope x) (hd : (x == ("__debug__" : Str)) = false) (hcd : (x == ("__classdict__" : Str)) = false) : PE X (.Name x pos) (tF X.K (eVar i)) := by
  refine PE.imp (pe_var hN hv hd hcd) fun σ H Q h => ?_
  obtain ⟨W, env, M, d, M', w, re, e, q⟩ := h
  unfold eVar at e
  split at e
  · rename_i d' hd'
    cases e
    have z := re.at_ i _ hd'
    cases hx : σ[i]? with
    | none =>
      rw [hx] at z
      cases z
    | some o =>
      rw [hx] at z
      cases z with
      | fz z => exact ⟨_, hx, q _ _ _ (Evo.refl W) w z⟩
  · cases e
theorem pPeek {i : Nat} {x : Str} (hN : X.N[i]? = some x) (hv : Vis X.env.scope x) (hd : (x == ("__debug__" : Str)) = false) (hcd : (x == ("__classdict__" : Str)) = false) : PE X (.Name x pos) (tP X.K (ePk i)) := by
  refine PE.imp (pe_var hN hv hd hcd) fun σ H Q h => ?_
  obtain ⟨W, env, M, d, M', w, re, e, q⟩ := h
  unfold ePk at e
  split at e
  · rename_i d' hd'
    cases e
    have z := re.at_ i _ hd'
    cases hx : σ[i]? with
    | none =>
      rw [hx] at z
      cases z
    | some o =>
      rw [hx] at z
      cases z with
      | fz z => exact ⟨_, hx, q _ _ _ (Evo.refl W) w (.fz z)⟩
  · rename_i d' hd'
    cases e
    have z := re.at_ i _ hd'
    cases hx : σ[i]? with
    | none =>
      rw [hx] at z
      cases z
    | some o =>
      rw [hx] at z
      cases z with
      | own z r => exact ⟨_, hx, q _ _ _ (Evo.refl W) w (.own z r)⟩
  · cases e
theorem pConst {v : V} {d : D} (h : PE X e (tC v)) (r : ∀ W : Wd, RepW X.K W v d) : PE X e (tF X.K (eCst d)) := by
  refine PE.imp h fun σ H Q h => ?_
  obtain ⟨W, env, M, d, M', w, re, e, q⟩ := h
  cases e
  exact q _ _ _ (Evo.refl W) w (r W)

/-! ### two-place operations -/
abbrev Op2 := D → D → Option (D × Bool)
def eOp (f : Op2) (fa fb : EP) : EE := fun env M => match fa env M with
  | some (x, M1) => match fb env M1 with
    | some (y, M2) => (f x y).map fun r => (r, M2)
    | none => none
  | none => none
/-- f does on data what r says of values -/
def Ok2 (K : PySem.W.Frag) (r : R2) (f : Op2) : Prop := ∀ (W : Wd) (M : List MO) (H : Hp) (x y : V) (d e : D) (res : D × Bool) (Q : VK), Rw K W M H → RepP K W x d → RepP K W y e → f d e = some res →
  (∀ v H' W', Evo W W' → Rw K W' M H' → RepR K W' H' res v → Q v H') → r x y H Q
theorem tE_op {K : PySem.W.Frag} {r : R2} {f : Op2} {fa fb : EP} {σ : L2.St} {H : Hp} {Q : VK} (ok : Ok2 K r f) (h : tE K (eOp f fa fb) σ H Q) : tP K fa σ H fun x H1 => tP K fb σ H1 fun y H2 => r x y H2 Q := by
  obtain ⟨W, env, M, rr, M', w, re, e, q⟩ := h
  unfold eOp at e
  cases ha : fa env M with
  | none =>
    rw [ha] at e
    cases e
  | some p =>
    obtain ⟨x, M1⟩ := p
    rw [ha] at e
    cases hb : fb env M1 with
    | none =>
      simp only [hb] at e
      cases e
    | some p =>
      obtain ⟨y, M2⟩ := p
      simp only [hb] at e
      cases hf : f x y with
      | none =>
        rw [hf] at e
        cases e
      | some z =>
        rw [hf] at e
        cases e
        refine ⟨W, env, M, x, M1, w, re, ha, fun v1 H1 W1 e1 w1 r1 => ?_⟩
        refine ⟨W1, env, M1, y, _, w1, re.evo e1, hb, fun v2 H2 W2 e2 w2 r2 => ?_⟩
        exact ok W2 _ H2 v1 v2 x y _ Q w2 (r1.evo e2) r2 hf fun v H' W' e3 w3 r3 => q v H' W' ((e1.trans e2).trans e3) w3 r3
theorem pOp {op : Operator} {r : R2} {f : Op2} {fa fb : EP} (ho : OpR X (binaryOp op) r) (ok : Ok2 X.K r f) (ha : PE X a (tP X.K fa)) (hb : PE X b (tP X.K fb)) : PE X (.BinOp a op b pos) (tE X.K (eOp f fa fb)) :=
  PE.imp (pe_op ho ha hb) fun _ _ _ h => tE_op ok h
theorem pCmp {op : CmpOp} {r : R2} {f : Op2} {fa fb : EP} (ho : OpR X (compareOp op) r) (ok : Ok2 X.K r f) (ha : PE X a (tP X.K fa)) (hb : PE X b (tP X.K fb)) (hm : behindInMarks op b = false) : PE X (.Compare a [op] [b] pos) (tE X.K (eOp f fa fb)) :=
  PE.imp (pe_cmpR ho ha hb hm) fun _ _ _ h => tE_op ok h
theorem pIx {r : R2} {f : Op2} {fa fb : EP} (ho : IxR X r) (ok : Ok2 X.K r f) (ha : PE X a (tP X.K fa)) (hb : PE X b (tP X.K fb)) (hs : PlainIx b) : PE X (.Subscript a b pos) (tE X.K (eOp f fa fb)) :=
  PE.imp (pe_ix ho ha hb hs) fun _ _ _ h => tE_op ok h
/-- a one-place operation, a call of a builtin -/
abbrev Op1 := D → Option (D × Bool)
abbrev OpN := List D → Option (D × Bool)
def eUn (f : Op1) (fa : EP) : EE := fun env M => match fa env M with
  | some (x, M1) => (f x).map fun r => (r, M1)
  | none => none
def eCall (f : OpN) (fs : EL) : EE := fun env M => match fs env M with
  | some (xs, M1) => (f xs).map fun r => (r, M1)
  | none => none
def Ok1 (K : PySem.W.Frag) (r : V → Hp → VK → Prop) (f : Op1) : Prop := ∀ (W : Wd) (M : List MO) (H : Hp) (x : V) (d : D) (res : D × Bool) (Q : VK), Rw K W M H → RepP K W x d → f d = some res →
  (∀ v H' W', Evo W W' → Rw K W' M H' → RepR K W' H' res v → Q v H') → r x H Q
def OkN (K : PySem.W.Frag) (r : List V → Hp → VK → Prop) (f : OpN) : Prop := ∀ (W : Wd) (M : List MO) (H : Hp) (x : List V) (d : List D) (res : D × Bool) (Q : VK), Rw K W M H → RepPs K W x d → f d = some res →
  (∀ v H' W', Evo W W' → Rw K W' M H' → RepR K W' H' res v → Q v H') → r x H Q
theorem tE_un {K : PySem.W.Frag} {r : V → Hp → VK → Prop} {f : Op1} {fa : EP} {σ : L2.St} {H : Hp} {Q : VK} (ok : Ok1 K r f) (h : tE K (eUn f fa) σ H Q) : tP K fa σ H fun x H1 => r x H1 Q := by
  obtain ⟨W, env, M, rr, M', w, re, e, q⟩ := h
  unfold eUn at e
  cases ha : fa env M with
  | none =>
    rw [ha] at e
    cases e
  | some p =>
    obtain ⟨x, M1⟩ := p
    rw [ha] at e
    cases hf : f x with
    | none =>
      simp only [hf] at e
      cases e
    | some z =>
      simp only [hf] at e
      cases e
      refine ⟨W, env, M, x, _, w, re, ha, fun v1 H1 W1 e1 w1 r1 => ?_⟩
      exact ok W1 _ H1 v1 x _ Q w1 r1 hf fun v H' W' e3 w3 r3 => q v H' W' (e1.trans e3) w3 r3
theorem tE_call {K : PySem.W.Frag} {r : List V → Hp → VK → Prop} {f : OpN} {fs : EL} {σ : L2.St} {H : Hp} {Q : VK} (ok : OkN K r f) (h : tE K (eCall f fs) σ H Q) : tLP K fs σ H fun x H1 => r x H1 Q := by
  obtain ⟨W, env, M, rr, M', w, re, e, q⟩ := h
  unfold eCall at e
  cases ha : fs env M with
  | none =>
    rw [ha] at e
    cases e
  | some p =>
    obtain ⟨x, M1⟩ := p
    rw [ha] at e
    cases hf : f x with
    | none =>
      simp only [hf] at e
      cases e
    | some z =>
      simp only [hf] at e
      cases e
      refine ⟨W, env, M, x, _, w, re, ha, fun v1 H1 W1 e1 w1 r1 => ?_⟩
      exact ok W1 _ H1 v1 x _ Q w1 r1 hf fun v H' W' e3 w3 r3 => q v H' W' (e1.trans e3) w3 r3
theorem pUn {op : UnaryOp} {r : V → Hp → VK → Prop} {f : Op1} {fa : EP} (ho : UnR X (unaryOp op) r) (ok : Ok1 X.K r f) (ha : PE X a (tP X.K fa)) : PE X (.UnaryOp op a pos) (tE X.K (eUn f fa)) :=
  PE.imp (pe_un ho ha) fun _ _ _ h => tE_un ok h

/-! ### arguments -/
def eNil : EL := fun _ M => some ([], M)
def eCons (f : EP) (g : EL) : EL := fun env M => match f env M with
  | some (x, M1) => match g env M1 with
    | some (xs, M2) => some (x :: xs, M2)
    | none => none
  | none => none
theorem eCons_some {f : EP} {g : EL} {env : Env} {M M' : List MO} {ds : List D} (e : eCons f g env M = some (ds, M')) : ∃ x M1 xs, f env M = some (x, M1) ∧ g env M1 = some (xs, M') ∧ ds = x :: xs := by
  unfold eCons at e
  cases ha : f env M with
  | none =>
    rw [ha] at e
    cases e
  | some p =>
    obtain ⟨x, M1⟩ := p
    rw [ha] at e
    cases hb : g env M1 with
    | none =>
      simp only [hb] at e
      cases e
    | some p =>
      obtain ⟨xs, M2⟩ := p
      simp only [hb] at e
      cases e
      exact ⟨x, M1, xs, rfl, hb, rfl⟩
theorem RepPs.evo {K : PySem.W.Frag} {W W' : Wd} {vs : List V} {ds : List D} (h : RepPs K W vs ds) (e : Evo W W') : RepPs K W' vs ds := by
  induction h with
  | nil => exact .nil
  | cons a b ih => exact .cons (a.evo e) ih
variable {es : List Expr}
theorem pNil : PA X [] (tL X.K eNil) := PA.imp pa_nil fun σ H Q h => by
  obtain ⟨W, env, M, d, M', w, re, e, q⟩ := h
  cases e
  exact q _ _ _ (Evo.refl W) w .nil
theorem pNilP : PA X [] (tLP X.K eNil) := PA.imp pa_nil fun σ H Q h => by
  obtain ⟨W, env, M, d, M', w, re, e, q⟩ := h
  cases e
  exact q _ _ _ (Evo.refl W) w .nil
theorem pCons {f : EP} {g : EL} (ha : PE X e (tF X.K f)) (hr : PA X es (tL X.K g)) (hs : starEach (e :: es) X.env = (false, eval e X.env) :: starEach es X.env) : PA X (e :: es) (tL X.K (eCons f g)) :=
  PA.imp (pa_cons ha hr hs) fun σ H Q h => by
    obtain ⟨W, env, M, d, M', w, re, e, q⟩ := h
    obtain ⟨x, M1, xs, e1, e2, rfl⟩ := eCons_some e
    refine ⟨W, env, M, x, M1, w, re, e1, fun v1 H1 W1 v1e w1 r1 => ⟨W1, env, M1, xs, M', w1, re.evo v1e, e2, fun vs H2 W2 v2e w2 r2 => ?_⟩⟩
    exact q _ _ _ (v1e.trans v2e) w2 (.cons (r1.evo v2e) r2)
theorem pConsP {f : EP} {g : EL} (ha : PE X e (tP X.K f)) (hr : PA X es (tLP X.K g)) (hs : starEach (e :: es) X.env = (false, eval e X.env) :: starEach es X.env) : PA X (e :: es) (tLP X.K (eCons f g)) :=
  PA.imp (pa_cons ha hr hs) fun σ H Q h => by
    obtain ⟨W, env, M, d, M', w, re, e, q⟩ := h
    obtain ⟨x, M1, xs, e1, e2, rfl⟩ := eCons_some e
    refine ⟨W, env, M, x, M1, w, re, e1, fun v1 H1 W1 v1e w1 r1 => ⟨W1, env, M1, xs, M', w1, re.evo v1e, e2, fun vs H2 W2 v2e w2 r2 => ?_⟩⟩
    exact q _ _ _ (v1e.trans v2e) w2 (.cons (r1.evo v2e) r2)

/-! ### displays -/
def LIM : Nat := 2 ^ 24
theorem lim_eq : LIM = sizeLine := rfl
def eTup (f : EL) : EE := fun env M => match f env M with
  | some (xs, M1) => if xs.length ≤ LIM then some ((.tup xs, false), M1) else none
  | none => none
def eLst (f : EL) : EE := fun env M => match f env M with
  | some (xs, M1) => if xs.length ≤ LIM then some ((.lst xs, true), M1) else none
  | none => none
theorem eTup_some {f : EL} {env : Env} {M M' : List MO} {r : D × Bool} (e : eTup f env M = some (r, M')) : ∃ xs, f env M = some (xs, M') ∧ xs.length ≤ LIM ∧ r = (.tup xs, false) := by
  unfold eTup at e
  split at e
  · rename_i xs M1 h
    split at e
    · cases e
      exact ⟨xs, h, by assumption, rfl⟩
    · cases e
  · cases e
theorem eLst_some {f : EL} {env : Env} {M M' : List MO} {r : D × Bool} (e : eLst f env M = some (r, M')) : ∃ xs, f env M = some (xs, M') ∧ xs.length ≤ LIM ∧ r = (.lst xs, true) := by
  unfold eLst at e
  split at e
  · rename_i xs M1 h
    split at e
    · cases e
      exact ⟨xs, h, by assumption, rfl⟩
    · cases e
  · cases e
theorem pTup {x1 : Nat} {f : EL} (h : PA X es (tL X.K f)) : PE X (.Tuple es x1 pos) (tE X.K (eTup f)) := PE.imp (pe_tup h) fun σ H Q h => by
  obtain ⟨W, env, M, r, M', w, re, e, q⟩ := h
  obtain ⟨xs, e1, hl, rfl⟩ := eTup_some e
  refine ⟨W, env, M, xs, M', w, re, e1, fun vs H' W' e2 w2 r2 => ⟨by rw [r2.length]; exact hl, fun p hp => ?_⟩⟩
  obtain ⟨W3, e3, w3, r3⟩ := w2.newT hp r2
  exact q _ _ _ (e2.trans e3) w3 (.old r3)
theorem pLst {f : EL} (h : PA X es (tL X.K f)) : PE X (.List es pos) (tE X.K (eLst f)) := PE.imp (pe_lst h) fun σ H Q h => by
  obtain ⟨W, env, M, r, M', w, re, e, q⟩ := h
  obtain ⟨xs, e1, hl, rfl⟩ := eLst_some e
  refine ⟨W, env, M, xs, M', w, re, e1, fun vs H' W' e2 w2 r2 => ⟨by rw [r2.length]; exact hl, fun p hp => ?_⟩⟩
  obtain ⟨w3, r3⟩ := w2.newL hp (.lst r2)
  exact q _ _ _ e2 w3 r3

/-! ### tests, conditional expressions -/
def tbB (f : EP) : EB := fun env M => match f env M with
  | some (.bl b, M1) => some (b, M1)
  | _ => none
theorem tbB_some {f : EP} {env : Env} {M M' : List MO} {b : Bool} (e : tbB f env M = some (b, M')) : f env M = some (.bl b, M') := by
  unfold tbB at e
  split at e
  · rename_i h
    cases e
    exact h
  · cases e
/-- a test of a value that is True or False -/
theorem tT_bool {f : EP} {σ : L2.St} {H : Hp} {K : PySem.W.Frag} {Q : Bool → Hp → Prop} (h : tT K (tbB f) σ H Q) : tTest (tF K f) σ H Q := by
  obtain ⟨W, env, M, b, M', w, re, e, q⟩ := h
  refine ⟨W, env, M, .bl b, M', w, re, tbB_some e, fun v H' W' e1 w1 r1 => ?_⟩
  cases r1
  exact ⟨b, rfl, q _ _ e1 w1⟩
def eNot (f : EB) : EB := fun env M => (f env M).map fun r => (!r.1, r.2)
theorem eNot_some {f : EB} {env : Env} {M M' : List MO} {b : Bool} (e : eNot f env M = some (b, M')) : f env M = some (!b, M') := by
  unfold eNot at e
  cases h : f env M with
  | none =>
    rw [h] at e
    cases e
  | some p =>
    rw [h] at e
    cases e
    simp
theorem ptNot {f : EB} (h : PT X a (tT X.K f)) : PT X (.UnaryOp .Not a pos) (tT X.K (eNot f)) := PT.imp (pt_not h) fun σ H Q h => by
  obtain ⟨W, env, M, b, M', w, re, e, q⟩ := h
  exact ⟨W, env, M, _, M', w, re, eNot_some e, fun H' W' e1 w1 => by show Q (!!b) H'; rw [Bool.not_not]; exact q _ _ e1 w1⟩
def bVal (f : EB) : EP := fun env M => (f env M).map fun r => (.bl r.1, r.2)
def eIf (c : EB) (f g : EE) : EE := fun env M => match c env M with
  | some (true, M1) => f env M1
  | some (false, M1) => g env M1
  | none => none
theorem tE_if {K : PySem.W.Frag} {c : EB} {f g : EE} {σ : L2.St} {H : Hp} {Q : VK} (h : tE K (eIf c f g) σ H Q) : tIf (tT K c) (tE K f) (tE K g) σ H Q := by
  obtain ⟨W, env, M, r, M', w, re, e, q⟩ := h
  unfold eIf at e
  split at e
  · rename_i M1 hc
    refine ⟨W, env, M, true, M1, w, re, hc, fun H' W' e1 w1 => ?_⟩
    refine iteT ?_
    exact ⟨W', env, M1, r, M', w1, re.evo e1, e, fun v H2 W2 e2 w2 r2 => q _ _ _ (e1.trans e2) w2 r2⟩
  · rename_i M1 hc
    refine ⟨W, env, M, false, M1, w, re, hc, fun H' W' e1 w1 => ?_⟩
    refine iteF ?_
    exact ⟨W', env, M1, r, M', w1, re.evo e1, e, fun v H2 W2 e2 w2 r2 => q _ _ _ (e1.trans e2) w2 r2⟩
  · cases e
theorem pIf {c : Expr} {fc : EB} {f g : EE} (hc : PT X c (tT X.K fc)) (ha : PE X a (tE X.K f)) (hb : PE X b (tE X.K g)) : PE X (.IfExp c a b pos) (tE X.K (eIf fc f g)) := PE.imp (pe_ifExp hc ha hb) fun _ _ _ h => tE_if h
/-- and, or as tests -/
def eAnd (f g : EB) : EB := fun env M => match f env M with
  | some (true, M1) => g env M1
  | r => r
def eOr (f g : EB) : EB := fun env M => match f env M with
  | some (false, M1) => g env M1
  | r => r
theorem tT_and {K : PySem.W.Frag} {f g : EB} {σ : L2.St} {H : Hp} {Q : Bool → Hp → Prop} (h : tT K (eAnd f g) σ H Q) : tAnd (tT K f) (tT K g) σ H Q := by
  obtain ⟨W, env, M, b, M', w, re, e, q⟩ := h
  unfold eAnd at e
  split at e
  · rename_i M1 hc
    refine ⟨W, env, M, true, M1, w, re, hc, fun H' W' e1 w1 => ?_⟩
    refine iteT ?_
    exact ⟨W', env, M1, b, M', w1, re.evo e1, e, fun H2 W2 e2 w2 => q _ _ (e1.trans e2) w2⟩
  · rename_i hc
    have hb : b = false := by
      cases b with
      | false => rfl
      | true => exact absurd e (hc M')
    subst hb
    refine ⟨W, env, M, false, M', w, re, e, fun H' W' e1 w1 => ?_⟩
    refine iteF ?_
    exact q _ _ e1 w1
theorem tT_or {K : PySem.W.Frag} {f g : EB} {σ : L2.St} {H : Hp} {Q : Bool → Hp → Prop} (h : tT K (eOr f g) σ H Q) : tOr (tT K f) (tT K g) σ H Q := by
  obtain ⟨W, env, M, b, M', w, re, e, q⟩ := h
  unfold eOr at e
  split at e
  · rename_i M1 hc
    refine ⟨W, env, M, false, M1, w, re, hc, fun H' W' e1 w1 => ?_⟩
    refine iteF ?_
    exact ⟨W', env, M1, b, M', w1, re.evo e1, e, fun H2 W2 e2 w2 => q _ _ (e1.trans e2) w2⟩
  · rename_i hc
    have hb : b = true := by
      cases b with
      | true => rfl
      | false => exact absurd e (hc M')
    subst hb
    refine ⟨W, env, M, true, M', w, re, e, fun H' W' e1 w1 => ?_⟩
    refine iteT ?_
    exact q _ _ e1 w1
theorem PW.imp {X : Cx} {e : Expr} {t t' : TT} (h : PW X e t) (i : ∀ σ H Q, t' σ H Q → t σ H Q) : PW X e t' := ⟨fun wh pins s σ H Q I q => h.run wh pins s σ H Q I (i σ H Q q)⟩
variable {rest : List Expr}
theorem pwAnd {f g : EB} (ha : PT X a (tT X.K f)) (hb : PW X (.BoolOp .And (b :: rest) pos) (tT X.K g)) : PW X (.BoolOp .And (a :: b :: rest) pos) (tT X.K (eAnd f g)) := PW.imp (pw_and ha hb) fun _ _ _ h => tT_and h
theorem pwOr {f g : EB} (ha : PT X a (tT X.K f)) (hb : PW X (.BoolOp .Or (b :: rest) pos) (tT X.K g)) : PW X (.BoolOp .Or (a :: b :: rest) pos) (tT X.K (eOr f g)) := PW.imp (pw_or ha hb) fun _ _ _ h => tT_or h
/-- and, or as values: all but the last True or False -/
def vAnd (f : EB) (g : EE) : EE := fun env M => match f env M with
  | some (true, M1) => g env M1
  | some (false, M1) => some ((.bl false, false), M1)
  | none => none
def vOr (f : EB) (g : EE) : EE := fun env M => match f env M with
  | some (false, M1) => g env M1
  | some (true, M1) => some ((.bl true, false), M1)
  | none => none
theorem pAnd {f : EP} {g : EE} (ha : PE X a (tF X.K f)) (hb : PE X (.BoolOp .And (b :: rest) pos) (tE X.K g)) : PE X (.BoolOp .And (a :: b :: rest) pos) (tE X.K (vAnd (tbB f) g)) := PE.imp (pe_and ha hb) fun σ H Q h => by
  obtain ⟨W, env, M, r, M', w, re, e, q⟩ := h
  unfold vAnd at e
  split at e
  · rename_i M1 hc
    refine ⟨W, env, M, .bl true, M1, w, re, tbB_some hc, fun v H' W' e1 w1 r1 => ?_⟩
    cases r1
    refine ⟨true, rfl, ?_⟩
    refine iteT ?_
    exact ⟨W', env, M1, r, M', w1, re.evo e1, e, fun v H2 W2 e2 w2 r2 => q _ _ _ (e1.trans e2) w2 r2⟩
  · rename_i M1 hc
    cases e
    refine ⟨W, env, M, .bl false, _, w, re, tbB_some hc, fun v H' W' e1 w1 r1 => ?_⟩
    cases r1
    refine ⟨false, rfl, ?_⟩
    refine iteF ?_
    exact q _ _ _ e1 w1 (.old (.bl _))
  · cases e
theorem pOr {f : EP} {g : EE} (ha : PE X a (tF X.K f)) (hb : PE X (.BoolOp .Or (b :: rest) pos) (tE X.K g)) : PE X (.BoolOp .Or (a :: b :: rest) pos) (tE X.K (vOr (tbB f) g)) := PE.imp (pe_or ha hb) fun σ H Q h => by
  obtain ⟨W, env, M, r, M', w, re, e, q⟩ := h
  unfold vOr at e
  split at e
  · rename_i M1 hc
    refine ⟨W, env, M, .bl false, M1, w, re, tbB_some hc, fun v H' W' e1 w1 r1 => ?_⟩
    cases r1
    refine ⟨false, rfl, ?_⟩
    refine iteF ?_
    exact ⟨W', env, M1, r, M', w1, re.evo e1, e, fun v H2 W2 e2 w2 r2 => q _ _ _ (e1.trans e2) w2 r2⟩
  · rename_i M1 hc
    cases e
    refine ⟨W, env, M, .bl true, _, w, re, tbB_some hc, fun v H' W' e1 w1 r1 => ?_⟩
    cases r1
    refine ⟨true, rfl, ?_⟩
    refine iteT ?_
    exact q _ _ _ e1 w1 (.old (.bl _))
  · cases e
/-- not as a value -/
theorem pNotV {f : EP} (ha : PE X a (tF X.K f)) : PE X (.UnaryOp .Not a pos) (tF X.K (bVal (eNot (tbB f)))) := PE.imp (pe_not ha) fun σ H Q h => by
  obtain ⟨W, env, M, d, M', w, re, e, q⟩ := h
  unfold bVal at e
  cases hc : eNot (tbB f) env M with
  | none =>
    rw [hc] at e
    cases e
  | some p =>
    obtain ⟨k, M1⟩ := p
    rw [hc] at e
    cases e
    have z := tbB_some (eNot_some hc)
    refine ⟨W, env, M, _, _, w, re, z, fun v H' W' e1 w1 r1 => ?_⟩
    cases r1
    exact ⟨_, rfl, by rw [Bool.not_not]; exact q _ _ _ e1 w1 (.bl _)⟩
end
end R

set_option Elab.async false
set_option linter.all false
set_option maxRecDepth 100000
set_option maxHeartbeats 2000000
/-! R3: the operations on data -/
namespace R
open PySem PySem.Spec PyProof.Rows L2

/-! ### data as the library's data -/
mutual
def D.py : D → PyData
  | .non => .none
  | .bl b => .bool b
  | .int i => .int i
  | .str s => .str s
  | .tup xs => .tuple (D.pys xs)
  | .lst xs => .list (D.pys xs)
  | .scr xs => .list (D.pys xs)
  | .dct _ _ => .dict []
  | .obj _ => .dict []
def D.pys : List D → List PyData
  | [] => []
  | x :: xs => D.py x :: D.pys xs
end
mutual
/-- no dicts and living objects within -/
def D.pure : D → Bool
  | .non => true | .bl _ => true | .int _ => true | .str _ => true
  | .tup xs => D.pures xs
  | .lst xs => D.pures xs
  | .scr xs => D.pures xs
  | .dct _ _ => false
  | .obj _ => false
def D.pures : List D → Bool
  | [] => true
  | x :: xs => D.pure x && D.pures xs
end
mutual
def D.depth : D → Nat
  | .tup xs => D.depths xs + 1
  | .lst xs => D.depths xs + 1
  | .scr xs => D.depths xs + 1
  | _ => 0
def D.depths : List D → Nat
  | [] => 0
  | x :: xs => max (D.depth x) (D.depths xs)
end
mutual
theorem D.depth_py : ∀ d : D, d.pure = true → d.py.depth = d.depth
  | .non, _ => rfl
  | .bl _, _ => rfl
  | .int _, _ => rfl
  | .str _, _ => rfl
  | .tup xs, h => by simp only [D.py, PyData.depth, D.depth]; rw [D.depths_py xs (by simpa [D.pure] using h)]
  | .lst xs, h => by simp only [D.py, PyData.depth, D.depth]; rw [D.depths_py xs (by simpa [D.pure] using h)]
  | .scr xs, h => by simp only [D.py, PyData.depth, D.depth]; rw [D.depths_py xs (by simpa [D.pure] using h)]
  | .dct _ _, h => by simp [D.pure] at h
  | .obj _, h => by simp [D.pure] at h
theorem D.depths_py : ∀ ds : List D, D.pures ds = true → PyData.depthAll (D.pys ds) = D.depths ds
  | [], _ => rfl
  | x :: xs, h => by
    simp only [D.pures, Bool.and_eq_true] at h
    simp only [D.pys, PyData.depthAll, D.depths]
    rw [D.depth_py x h.1, D.depths_py xs h.2]
end
section
variable {K : PySem.W.Frag} {G H : Hp} {al : List Addr}
mutual
theorem Rep.dp (l : Le G H) : ∀ {v : V} {d : D}, Rep K G al v d → d.pure = true → Dp K H v d.py ∧ PyData.canLay0 d.py = true
  | _, _, .non, _ => ⟨.non, rfl⟩
  | _, _, .bl b, _ => ⟨.bl b, rfl⟩
  | _, _, .int i, _ => ⟨.int i, rfl⟩
  | _, _, .str x h, _ => ⟨.str x, by simpa [D.py, PyData.canLay0] using h⟩
  | _, _, .tup h r, q => by
    obtain ⟨a, b⟩ := Reps.dp l r (by simpa [D.pure] using q)
    exact ⟨.tup (l.sqT h) a, by simpa [D.py, PyData.canLay0] using b⟩
  | _, _, .lst h r, q => by
    obtain ⟨a, b⟩ := Reps.dp l r (by simpa [D.pure] using q)
    exact ⟨.lst (.inl (.inl (l _ _ h))) a, by simpa [D.py, PyData.canLay0] using b⟩
  | _, _, .scr h r, q => by
    obtain ⟨a, b⟩ := Reps.dp l r (by simpa [D.pure] using q)
    exact ⟨.lst (l.sqL h) a, by simpa [D.py, PyData.canLay0] using b⟩
  | _, _, .dct _ _, q => by simp [D.pure] at q
  | _, _, .obj _, q => by simp [D.pure] at q
theorem Reps.dp (l : Le G H) : ∀ {vs : List V} {ds : List D}, Reps K G al vs ds → D.pures ds = true → DpAll K H vs (D.pys ds) ∧ PyData.canLayAll0 (D.pys ds) = true
  | _, _, .nil, _ => ⟨.nil, rfl⟩
  | _, _, .cons h r, q => by
    simp only [D.pures, Bool.and_eq_true] at q
    obtain ⟨a, b⟩ := Rep.dp l h q.1
    obtain ⟨c, d⟩ := Reps.dp l r q.2
    exact ⟨.cons a c, by simp [D.pys, PyData.canLayAll0, b, d]⟩
end
end
/-- equality of data, as the program's == sees it -/
def D.eqv (d e : D) : Bool := PyData.eqv d.py e.py
def D.okEq (d e : D) : Bool := d.pure && e.pure && decide (min d.depth e.depth ≤ 64)
section
variable {K : PySem.W.Frag} {W : Wd} {M : List MO} {H : Hp} {v : V}
theorem RepP.dp {d : D} (w : Rw K W M H) (h : RepP K W v d) (p : d.pure = true) : Dp K H v d.py ∧ PyData.canLay0 d.py = true := by
  cases h with
  | fz h => exact Rep.dp w.g h p
  | own h r =>
    cases r with
    | lst r =>
      obtain ⟨a, b⟩ := Reps.dp w.g r (by simpa [D.pure] using p)
      exact ⟨.lst (.inl (.inl (w.o _ _ h))) a, by simpa [D.py, PyData.canLay0] using b⟩
    | dct r => simp [D.pure] at p
end

/-! ### == and != -/
def rEqX (K : PySem.W.Frag) : R2 := fun x y H Q => ∃ d e, Dp K H x d ∧ Dp K H y e ∧ PyData.canLay0 d = true ∧ PyData.canLay0 e = true ∧ min d.depth e.depth ≤ 64 ∧ Q (.bl (PyData.eqv d e)) H
def rNeX (K : PySem.W.Frag) : R2 := fun x y H Q => ∃ d e, Dp K H x d ∧ Dp K H y e ∧ PyData.canLay0 d = true ∧ PyData.canLay0 e = true ∧ min d.depth e.depth ≤ 64 ∧ Q (.bl (!PyData.eqv d e)) H
section
variable {X : Cx}
theorem op_eqX (hu : X.A.units + 64 < cLine) : OpR X (compareOp .Eq) (rEqX X.K) := by
  intro pins s σ H x y v u Q I rx ry h
  obtain ⟨d, e, hd, he, sd, se, hm, q⟩ := h
  obtain ⟨as, r1⟩ := Dp.reads I d x v hd rx
  obtain ⟨bs, r2⟩ := Dp.reads I e y u he ry
  exact SeqAt.compareEq_reads r1 r2 sd se (by omega) ⟨.bl _, H, I, rfl, q⟩
theorem op_neX (hu : X.A.units + 64 < cLine) : OpR X (compareOp .NotEq) (rNeX X.K) := by
  intro pins s σ H x y v u Q I rx ry h
  obtain ⟨d, e, hd, he, sd, se, hm, q⟩ := h
  obtain ⟨as, r1⟩ := Dp.reads I d x v hd rx
  obtain ⟨bs, r2⟩ := Dp.reads I e y u he ry
  exact SeqAt.compareNe_reads r1 r2 sd se (by omega) ⟨.bl _, H, I, rfl, q⟩
end
def dEq : Op2 := fun d e => if d.okEq e then some (.bl (d.eqv e), false) else none
def dNe : Op2 := fun d e => if d.okEq e then some (.bl (!d.eqv e), false) else none
theorem okEq_of {d e : D} (h : d.okEq e = true) : d.pure = true ∧ e.pure = true ∧ min d.py.depth e.py.depth ≤ 64 := by
  unfold D.okEq at h
  simp only [Bool.and_eq_true, decide_eq_true_eq] at h
  obtain ⟨⟨h1, h2⟩, h3⟩ := h
  refine ⟨h1, h2, ?_⟩
  rw [D.depth_py d h1, D.depth_py e h2]
  exact h3
/-- the result is a plain value -/
theorem done_bl {K : PySem.W.Frag} {W : Wd} {M : List MO} {H : Hp} {b : Bool} {Q : VK} (w : Rw K W M H) (q : ∀ v H' W', Evo W W' → Rw K W' M H' → RepR K W' H' (.bl b, false) v → Q v H') : Q (.bl b) H := q _ _ _ (Evo.refl W) w (.old (.bl b))
theorem done_int {K : PySem.W.Frag} {W : Wd} {M : List MO} {H : Hp} {b : Int} {Q : VK} (w : Rw K W M H) (q : ∀ v H' W', Evo W W' → Rw K W' M H' → RepR K W' H' (.int b, false) v → Q v H') : Q (.int b) H := q _ _ _ (Evo.refl W) w (.old (.int b))
theorem ok_eq {K : PySem.W.Frag} : Ok2 K (rEqX K) dEq := by
  intro W M H x y d e res Q w rx ry h q
  unfold dEq at h
  split at h
  · rename_i hk
    cases h
    obtain ⟨p1, p2, p3⟩ := okEq_of hk
    obtain ⟨a1, a2⟩ := rx.dp w p1
    obtain ⟨b1, b2⟩ := ry.dp w p2
    exact ⟨_, _, a1, b1, a2, b2, p3, done_bl w q⟩
  · cases h
theorem ok_ne {K : PySem.W.Frag} : Ok2 K (rNeX K) dNe := by
  intro W M H x y d e res Q w rx ry h q
  unfold dNe at h
  split at h
  · rename_i hk
    cases h
    obtain ⟨p1, p2, p3⟩ := okEq_of hk
    obtain ⟨a1, a2⟩ := rx.dp w p1
    obtain ⟨b1, b2⟩ := ry.dp w p2
    exact ⟨_, _, a1, b1, a2, b2, p3, done_bl w q⟩
  · cases h

/-! ### is None -/
def D.isNon : D → Bool
  | .non => true
  | _ => false
def dIs : Op2 := fun d e => if e.isNon then some (.bl d.isNon, false) else none
def dIsNot : Op2 := fun d e => if e.isNon then some (.bl (!d.isNon), false) else none
theorem RepP.isNon {K : PySem.W.Frag} {W : Wd} {v : V} {d : D} (h : RepP K W v d) : decide (v = .non) = d.isNon := by
  cases h with
  | fz h => cases h <;> rfl
  | own h r => cases r <;> rfl
theorem ok_is {K : PySem.W.Frag} : Ok2 K (fun x y H Q => y = .non ∧ Q (.bl (decide (x = .non))) H) dIs := by
  intro W M H x y d e res Q w rx ry h q
  unfold dIs at h
  split at h
  · rename_i hk
    cases h
    have e1 : y = .non := of_decide_eq_true (ry.isNon.trans hk)
    refine ⟨e1, ?_⟩
    rw [rx.isNon]
    exact done_bl w q
  · cases h
theorem ok_isNot {K : PySem.W.Frag} : Ok2 K (fun x y H Q => y = .non ∧ Q (.bl (!decide (x = .non))) H) dIsNot := by
  intro W M H x y d e res Q w rx ry h q
  unfold dIsNot at h
  split at h
  · rename_i hk
    cases h
    have e1 : y = .non := of_decide_eq_true (ry.isNon.trans hk)
    refine ⟨e1, ?_⟩
    rw [rx.isNon]
    exact done_bl w q
  · cases h

/-! ### order of ints and texts -/
def dOrd (fi : Int → Int → Bool) (fs : Str → Str → Bool) : Op2
  | .int i, .int j => some (.bl (fi i j), false)
  | .str x, .str y => some (.bl (fs x y), false)
  | _, _ => none
def rOrd (fi : Int → Int → Bool) (fs : Str → Str → Bool) : R2 := fun x y H Q => (∃ i j, x = .int i ∧ y = .int j ∧ Q (.bl (fi i j)) H) ∨ (∃ i j, x = .str i ∧ y = .str j ∧ Q (.bl (fs i j)) H)
theorem ok_ord {K : PySem.W.Frag} {fi : Int → Int → Bool} {fs : Str → Str → Bool} : Ok2 K (rOrd fi fs) (dOrd fi fs) := by
  intro W M H x y d e res Q w rx ry h q
  unfold dOrd at h
  split at h
  · cases h
    exact .inl ⟨_, _, rx.int, ry.int, done_bl w q⟩
  · cases h
    exact .inr ⟨_, _, rx.str.1, ry.str.1, done_bl w q⟩
  · cases h
def ltS (x y : Str) : Bool := decide (x.cps.toList < y.cps.toList)
section
variable {X : Cx}
theorem op_ltX : OpR X (compareOp .Lt) (rOrd (fun i j => decide (i < j)) ltS) := OpR.or op_lt op_lt_str
theorem op_leX : OpR X (compareOp .LtE) (rOrd (fun i j => decide (i ≤ j)) fun x y => !ltS y x) := OpR.or op_le op_le_str
theorem op_gtX : OpR X (compareOp .Gt) (rOrd (fun i j => decide (j < i)) fun x y => ltS y x) := OpR.or op_gt op_gt_str
theorem op_geX : OpR X (compareOp .GtE) (rOrd (fun i j => decide (j ≤ i)) fun x y => !ltS x y) := OpR.or op_ge op_ge_str
end
def dLt : Op2 := dOrd (fun i j => decide (i < j)) ltS
def dLe : Op2 := dOrd (fun i j => decide (i ≤ j)) fun x y => !ltS y x
def dGt : Op2 := dOrd (fun i j => decide (j < i)) fun x y => ltS y x
def dGe : Op2 := dOrd (fun i j => decide (j ≤ i)) fun x y => !ltS x y

/-! ### + -/
theorem strOk_app {x y : Str} (hx : PyData.strOk x = true) (hy : PyData.strOk y = true) : PyData.strOk (x ++ y) = true := by
  unfold PyData.strOk at *
  have e : (x ++ y).cps = x.cps ++ y.cps := rfl
  rw [e, Array.all_append, hx, hy]
  rfl
def dAdd : Op2
  | .int i, .int j => some (.int (i + j), false)
  | .str x, .str y => if x.length + y.length ≤ LIM then some (.str (x ++ y), false) else none
  | .tup xs, .tup ys => if xs.length + ys.length ≤ LIM then some (.tup (xs ++ ys), false) else none
  | .lst xs, .lst ys => if xs.length + ys.length ≤ LIM then some (.lst (xs ++ ys), true) else none
  | _, _ => none
def rAddX (K : PySem.W.Frag) : R2 := fun x y H Q => (rI0 (fun i j => .int (i + j)) x y H Q ∨ (∃ i j, x = .str i ∧ y = .str j ∧ i.length + j.length ≤ sizeLine ∧ Q (.str (i ++ j)) H)) ∨ (rCatA K x y H Q ∨ rCat x y H Q)
theorem op_addX {X : Cx} : OpR X (binaryOp .Add) (rAddX X.K) := OpR.or (OpR.or op_add op_add_str) (OpR.or op_catA op_cat)
theorem Reps.nil_iff {K : PySem.W.Frag} {G : Hp} {al : List Addr} {vs : List V} {ds : List D} (r : Reps K G al vs ds) : vs = [] ↔ ds = [] := by
  cases r <;> simp
theorem ok_add {K : PySem.W.Frag} : Ok2 K (rAddX K) dAdd := by
  intro W M H x y d e res Q w rx ry h q
  unfold dAdd at h
  split at h
  · cases h
    exact .inl (.inl ⟨_, _, rx.int, ry.int, done_int w q⟩)
  · split at h
    · rename_i hl
      cases h
      obtain ⟨e1, o1⟩ := rx.str
      obtain ⟨e2, o2⟩ := ry.str
      exact .inl (.inr ⟨_, _, e1, e2, hl, q _ _ _ (Evo.refl W) w (.old (.str _ (strOk_app o1 o2)))⟩)
    · cases h
  · split at h
    · rename_i hl
      cases h
      obtain ⟨a, vs, rfl, h1, r1⟩ := rx.tup w
      obtain ⟨b, us, rfl, h2, r2⟩ := ry.tup w
      refine .inr (.inl ⟨a, b, vs, us, rfl, rfl, h1, h2, by rw [r1.length, r2.length]; exact hl, fun z => ?_, fun _ z => ?_, fun _ _ p hp => ?_⟩)
      · have z' := r1.nil_iff.mp z
        subst z'
        cases ry with
        | fz ry => exact q _ _ _ (Evo.refl W) w (.old ry)
        | own hh rr => cases rr
      · have z' := r2.nil_iff.mp z
        subst z'
        rw [List.append_nil] at q
        cases rx with
        | fz rx => exact q _ _ _ (Evo.refl W) w (.old rx)
        | own hh rr => cases rr
      · obtain ⟨W3, e3, w3, r3⟩ := w.newT hp (r1.append r2)
        exact q _ _ _ e3 w3 (.old r3)
    · cases h
  · split at h
    · rename_i hl
      cases h
      obtain ⟨a, vs, rfl, h1, r1⟩ := rx.lst w
      obtain ⟨b, us, rfl, h2, r2⟩ := ry.lst w
      refine .inr (.inr ⟨a, b, vs, us, rfl, rfl, h1, h2, by rw [r1.length, r2.length]; exact hl, fun p hp => ?_⟩)
      obtain ⟨w3, r3⟩ := w.newL hp (.lst (r1.append r2))
      exact q _ _ _ (Evo.refl W) w3 r3
    · cases h
  · cases h

/-! ### the other operators of ints; a list times an int -/
def dSub : Op2
  | .int i, .int j => some (.int (i - j), false)
  | _, _ => none
theorem ok_sub {K : PySem.W.Frag} : Ok2 K (rI0 fun i j => .int (i - j)) dSub := by
  intro W M H x y d e res Q w rx ry h q
  unfold dSub at h
  split at h
  · cases h
    exact ⟨_, _, rx.int, ry.int, done_int w q⟩
  · cases h
def dDiv : Op2
  | .int i, .int j => if 0 < j ∧ j < 1073741824 then some (.int (i / j), false) else none
  | _, _ => none
theorem ok_div {K : PySem.W.Frag} : Ok2 K (rI CDiv fun i j => .int (i / j)) dDiv := by
  intro W M H x y d e res Q w rx ry h q
  unfold dDiv at h
  split at h
  · split at h
    · rename_i hc
      cases h
      exact ⟨_, _, rx.int, ry.int, hc, done_int w q⟩
    · cases h
  · cases h
def dMod : Op2
  | .int i, .int j => if 0 < j then some (.int (i % j), false) else none
  | _, _ => none
theorem ok_mod {K : PySem.W.Frag} : Ok2 K (rI (fun _ j => 0 < j) fun i j => .int (i % j)) dMod := by
  intro W M H x y d e res Q w rx ry h q
  unfold dMod at h
  split at h
  · split at h
    · rename_i hc
      cases h
      exact ⟨_, _, rx.int, ry.int, hc, done_int w q⟩
    · cases h
  · cases h
def dPow : Op2
  | .int i, .int j => if 0 ≤ j ∧ j ≤ 1000000 ∧ i.natAbs < 2 ^ 64 then some (.int (i ^ j.toNat), false) else none
  | _, _ => none
theorem ok_pow {K : PySem.W.Frag} : Ok2 K (rI CPow fun i j => .int (i ^ j.toNat)) dPow := by
  intro W M H x y d e res Q w rx ry h q
  unfold dPow at h
  split at h
  · split at h
    · rename_i hc
      cases h
      exact ⟨_, _, rx.int, ry.int, hc, done_int w q⟩
    · cases h
  · cases h
theorem Reps.rep {K : PySem.W.Frag} {G : Hp} {al : List Addr} {vs : List V} {ds : List D} (r : Reps K G al vs ds) : ∀ n : Nat, Reps K G al (List.replicate n vs).flatten (List.replicate n ds).flatten
  | 0 => .nil
  | n + 1 => by
    rw [List.replicate_succ, List.replicate_succ, List.flatten_cons, List.flatten_cons]
    exact r.append (r.rep n)
def dMul : Op2
  | .int i, .int j => if (-(2 ^ 64) < i ∧ i < 2 ^ 64) ∨ (-(2 ^ 64) < j ∧ j < 2 ^ 64) then some (.int (i * j), false) else none
  | .lst xs, .int k => if -(2 ^ 63) ≤ k ∧ k < 2 ^ 63 ∧ xs.length * k.toNat ≤ LIM then some (.lst (List.replicate k.toNat xs).flatten, true) else none
  | .tup xs, .int k => if 2 ≤ k ∧ k ≤ 1000 ∧ 0 < xs.length ∧ xs.length ≤ 1000 then some (.tup (List.replicate k.toNat xs).flatten, false) else none
  | _, _ => none
def rMulX (K : PySem.W.Frag) : R2 := fun x y H Q => (rI CMul (fun i j => .int (i * j)) x y H Q ∨ rRep x y H Q) ∨ rRepT K x y H Q
theorem op_mulX {X : Cx} : OpR X (binaryOp .Mult) (rMulX X.K) := OpR.or (OpR.or op_mul op_rep) op_repT
theorem ok_mul {K : PySem.W.Frag} : Ok2 K (rMulX K) dMul := by
  intro W M H x y d e res Q w rx ry h q
  unfold dMul at h
  split at h
  · split at h
    · rename_i hc
      cases h
      exact .inl (.inl ⟨_, _, rx.int, ry.int, hc, done_int w q⟩)
    · cases h
  · split at h
    · rename_i hc
      cases h
      obtain ⟨a, vs, rfl, h1, r1⟩ := rx.lst w
      refine .inl (.inr ⟨a, _, vs, rfl, ry.int, h1, hc.1, hc.2.1, by rw [r1.length]; exact hc.2.2, fun p hp => ?_⟩)
      obtain ⟨w3, r3⟩ := w.newL hp (.lst (r1.rep _))
      exact q _ _ _ (Evo.refl W) w3 r3
    · cases h
  · split at h
    · rename_i hc
      cases h
      obtain ⟨a, vs, rfl, h1, r1⟩ := rx.tup w
      have hl := r1.length
      refine .inr ⟨a, _, vs, rfl, ry.int, h1, fun z => ?_, hc.1, hc.2.1, by omega, fun p hp => ?_⟩
      · subst z
        rw [← hl] at hc
        exact absurd hc.2.2.1 (by decide)
      · obtain ⟨W3, e3, w3, r3⟩ := w.newT hp (r1.rep _)
        exact q _ _ _ e3 w3 (.old r3)
    · cases h
  · cases h
def dNeg : Op1
  | .int i => some (.int (-i), false)
  | _ => none
theorem ok_neg {K : PySem.W.Frag} : Ok1 K (rU fun i => .int (-i)) dNeg := by
  intro W M H x d res Q w rx h q
  unfold dNeg at h
  split at h
  · cases h
    exact ⟨_, rx.int, done_int w q⟩
  · cases h

/-! ### subscripts, slices -/
def dIx : Op2
  | .tup xs, .int i => (atI xs i).map fun d => (d, false)
  | .lst xs, .int i => (atI xs i).map fun d => (d, false)
  | .scr xs, .int i => (atI xs i).map fun d => (d, false)
  | _, _ => none
theorem Reps.atI {K : PySem.W.Frag} {G : Hp} {al : List Addr} {vs : List V} {ds : List D} {i : Int} {d : D} (r : Reps K G al vs ds) (h : L2.atI ds i = some d) : ∃ v, L2.atI vs i = some v ∧ Rep K G al v d := by
  unfold L2.atI at *
  rw [r.length]
  cases e : ixN ds.length i with
  | none =>
    rw [e] at h
    cases h
  | some j =>
    rw [e] at h
    exact r.get h
def rIxX (K : PySem.W.Frag) : R2 := fun x y H Q => rIxL K x y H Q ∨ rIxT K x y H Q
theorem ix_X {X : Cx} : IxR X (rIxX X.K) := IxR.or ix_list ix_tup
theorem ok_ix {K : PySem.W.Frag} : Ok2 K (rIxX K) dIx := by
  intro W M H x y d e res Q w rx ry h q
  unfold dIx at h
  split at h
  all_goals first
    | cases h
      done
    | (rename_i xs i
       cases ha : L2.atI xs i with
       | none =>
         rw [ha] at h
         cases h
       | some z =>
         rw [ha] at h
         cases h
         first
           | (obtain ⟨a, vs, rfl, h1, r1⟩ := rx.tup w
              obtain ⟨v, e1, e2⟩ := r1.atI ha
              exact .inr ⟨a, vs, i, v, rfl, ry.int, h1, e1, q _ _ _ (Evo.refl W) w (.old e2)⟩)
           | (obtain ⟨a, vs, rfl, h1, r1⟩ := rx.lst w
              obtain ⟨v, e1, e2⟩ := r1.atI ha
              exact .inl ⟨a, vs, i, v, rfl, ry.int, .inl (.inl h1), e1, q _ _ _ (Evo.refl W) w (.old e2)⟩)
           | (obtain ⟨a, vs, rfl, h1, r1⟩ := rx.scr w
              obtain ⟨v, e1, e2⟩ := r1.atI ha
              exact .inl ⟨a, vs, i, v, rfl, ry.int, h1, e1, q _ _ _ (Evo.refl W) w (.old e2)⟩))
/-- the items between two places -/
def cutD {α : Type} (xs : List α) (lo hi : Option Int) : List α := (xs.drop (HT.sIx xs.length 0 lo)).take (HT.sIx xs.length xs.length hi - HT.sIx xs.length 0 lo)
theorem Reps.cut {K : PySem.W.Frag} {G : Hp} {al : List Addr} {vs : List V} {ds : List D} {lo hi : Option Int} (r : Reps K G al vs ds) : Reps K G al (cutV vs lo hi) (cutD ds lo hi) := by
  unfold cutV cutD
  rw [r.length]
  exact (r.drop _).take _
theorem cutD_whole {α : Type} {xs : List α} {lo hi : Option Int} (h : HT.sIx xs.length 0 lo = 0 ∧ HT.sIx xs.length xs.length hi = xs.length) : cutD xs lo hi = xs := by
  unfold cutD
  rw [h.1, h.2, List.drop_zero, Nat.sub_zero, List.take_length]
def dSl (lo hi : Option Int) : Op1
  | .tup xs => some (.tup (cutD xs lo hi), false)
  | .lst xs => some (.lst (cutD xs lo hi), true)
  | .scr xs => some (.lst (cutD xs lo hi), true)
  | _ => none
def rSlX (K : PySem.W.Frag) : V → Option Int → Option Int → Hp → VK → Prop := fun x lo hi H Q => rSlA K x lo hi H Q ∨ rSlL K x lo hi H Q
theorem sl_X {X : Cx} : SlR X (rSlX X.K) := SlR.or sl_tupA sl_list
theorem ok_sl {K : PySem.W.Frag} {lo hi : Option Int} : Ok1 K (fun x => rSlX K x lo hi) (dSl lo hi) := by
  intro W M H x d res Q w rx h q
  unfold dSl at h
  split at h
  · cases h
    obtain ⟨a, vs, rfl, h1, r1⟩ := rx.tup w
    have hl := r1.length
    refine .inl ⟨a, vs, rfl, h1, fun hw => ?_, fun _ p hp => ?_⟩
    · rw [hl] at hw
      rw [cutD_whole hw] at q
      cases rx with
      | fz rx => exact q _ _ _ (Evo.refl W) w (.old rx)
      | own hh rr => cases rr
    · obtain ⟨W3, e3, w3, r3⟩ := w.newT hp (r1.cut (lo := lo) (hi := hi))
      exact q _ _ _ e3 w3 (.old r3)
  · cases h
    obtain ⟨a, vs, rfl, h1, r1⟩ := rx.lst w
    refine .inr ⟨a, vs, rfl, .inl (.inl h1), fun p hp => ?_⟩
    obtain ⟨w3, r3⟩ := w.newL hp (.lst (r1.cut (lo := lo) (hi := hi)))
    exact q _ _ _ (Evo.refl W) w3 r3
  · cases h
    obtain ⟨a, vs, rfl, h1, r1⟩ := rx.scr w
    refine .inr ⟨a, vs, rfl, h1, fun p hp => ?_⟩
    obtain ⟨w3, r3⟩ := w.newL hp (.lst (r1.cut (lo := lo) (hi := hi)))
    exact q _ _ _ (Evo.refl W) w3 r3
  · cases h
/-- a part of a slice -/
abbrev EO := Env → List MO → Option (Option Int × List MO)
def eNoP : EO := fun _ M => some (none, M)
def eSomeP (f : EP) : EO := fun env M => match f env M with
  | some (.int i, M1) => some (some i, M1)
  | _ => none
def tO (K : PySem.W.Frag) (f : EO) : TO := fun σ H Q => ∃ W env M o M', Rw K W M H ∧ Re K W env σ ∧ f env M = some (o, M') ∧ ∀ H' W', Evo W W' → Rw K W' M' H' → Q o H'
theorem PO.imp {X : Cx} {e : Option Expr} {t t' : TO} (h : PO X e t) (i : ∀ σ H Q, t' σ H Q → t σ H Q) : PO X e t' := ⟨fun pins s σ H Q I q => h.run pins s σ H Q I (i σ H Q q)⟩
def eSl (f : EP) (lo hi : EO) : EE := fun env M => match f env M with
  | some (x, M1) => match lo env M1 with
    | some (a, M2) => match hi env M2 with
      | some (b, M3) => (dSl a b x).map fun r => (r, M3)
      | none => none
    | none => none
  | none => none
section
variable {X : Cx}
theorem poNone : PO X none (tO X.K eNoP) := PO.imp po_none fun σ H Q h => by
  obtain ⟨W, env, M, d, M', w, re, e, q⟩ := h
  cases e
  exact q _ _ (Evo.refl W) w
theorem poSome {e : Expr} {f : EP} (h : PE X e (tP X.K f)) : PO X (some e) (tO X.K (eSomeP f)) := PO.imp (po_some h) fun σ H Q h => by
  obtain ⟨W, env, M, d, M', w, re, e, q⟩ := h
  unfold eSomeP at e
  split at e
  · rename_i i M1 hf
    cases e
    exact ⟨W, env, M, _, _, w, re, hf, fun v H' W' e1 w1 r1 => ⟨i, r1.int, q _ _ e1 w1⟩⟩
  · cases e
theorem pSl {e : Expr} {lo hi : Option Expr} {p2 pos : Pos} {f : EP} {fl fh : EO} (he : PE X e (tP X.K f)) (hl : PO X lo (tO X.K fl)) (hu : PO X hi (tO X.K fh)) : PE X (.Subscript e (.Slice lo hi none p2) pos) (tE X.K (eSl f fl fh)) := PE.imp (pe_slice sl_X he hl hu) fun σ H Q h => by
  obtain ⟨W, env, M, r, M', w, re, e, q⟩ := h
  unfold eSl at e
  split at e
  · rename_i x M1 e1
    split at e
    · rename_i a M2 e2
      split at e
      · rename_i b M3 e3
        cases hd : dSl a b x with
        | none =>
          rw [hd] at e
          cases e
        | some z =>
          rw [hd] at e
          cases e
          refine ⟨W, env, M, x, M1, w, re, e1, fun v1 H1 W1 v1e w1 r1 => ⟨W1, env, M1, a, M2, w1, re.evo v1e, e2, fun H2 W2 v2e w2 => ⟨W2, env, M2, b, _, w2, (re.evo v1e).evo v2e, e3, fun H3 W3 v3e w3 => ?_⟩⟩⟩
          exact ok_sl W3 _ H3 v1 x _ Q w3 ((r1.evo v2e).evo v3e) hd fun v H' W' v4e w4 r4 => q _ _ _ (((v1e.trans v2e).trans v3e).trans v4e) w4 r4
      · cases e
    · cases e
  · cases e
end

/-! ### truth -/
def D.truth : D → Option Bool
  | .non => some false
  | .bl b => some b
  | .int i => some (i != 0)
  | .str y => if y.length ≤ LIM then some ((y.length : Int) != 0) else none
  | .tup xs => some (!xs.isEmpty)
  | .lst xs => some (!xs.isEmpty)
  | .scr xs => some (!xs.isEmpty)
  | .dct ks _ => some (!ks.isEmpty)
  | .obj _ => none
theorem RepP.truth {K : PySem.W.Frag} {W : Wd} {M : List MO} {H : Hp} {v : V} {d : D} {b : Bool} (w : Rw K W M H) (h : RepP K W v d) (e : d.truth = some b) : TruV K v H b := by
  have em : ∀ {vs : List V} {ds : List D}, RepsW K W vs ds → ds.isEmpty = vs.isEmpty := fun {vs ds} r => by cases r <;> rfl
  cases d with
  | non =>
    rw [h.non]
    cases e
    rfl
  | bl k =>
    rw [h.bl]
    cases e
    rfl
  | int i =>
    rw [h.int]
    cases e
    rfl
  | str y =>
    rw [h.str.1]
    simp only [D.truth] at e
    split at e
    · cases e
      exact ⟨by assumption, rfl⟩
    · cases e
  | tup xs =>
    obtain ⟨a, vs, rfl, h1, r1⟩ := h.tup w
    cases e
    exact .inr (.inl ⟨vs, h1, by rw [em r1]⟩)
  | lst xs =>
    obtain ⟨a, vs, rfl, h1, r1⟩ := h.lst w
    cases e
    exact .inl ⟨vs, .inl (.inl h1), by rw [em r1]⟩
  | scr xs =>
    obtain ⟨a, vs, rfl, h1, r1⟩ := h.scr w
    cases e
    exact .inl ⟨vs, h1, by rw [em r1]⟩
  | dct ks ds =>
    obtain ⟨a, kvs, rfl, h1, rfl, r1⟩ := h.dct w
    cases e
    exact .inr (.inr ⟨kvs, h1, by rw [List.isEmpty_map]⟩)
  | obj n => cases e
def tbV (f : EP) : EB := fun env M => match f env M with
  | some (d, M1) => d.truth.map fun b => (b, M1)
  | none => none
theorem ptVal {X : Cx} {a : Expr} {f : EP} (ha : PE X a (tP X.K f)) (he : ∀ whole, isTrue a X.env whole = (do let v ← whole; standAt a.pos; holding [v] (truthy v))) : PT X a (tT X.K (tbV f)) := PT.imp (pt_truth ha he) fun σ H Q h => by
  obtain ⟨W, env, M, b, M', w, re, e, q⟩ := h
  unfold tbV at e
  split at e
  · rename_i d M1 hf
    cases hd : d.truth with
    | none =>
      rw [hd] at e
      cases e
    | some k =>
      rw [hd] at e
      cases e
      exact ⟨W, env, M, d, _, w, re, hf, fun v H' W' e1 w1 r1 => ⟨_, r1.truth w1 hd, q _ _ e1 w1⟩⟩
  · cases e
end R

set_option Elab.async false
set_option linter.all false
set_option maxRecDepth 100000
set_option maxHeartbeats 2000000
/-! R4: calls of built-in functions -/
namespace R
open PySem PySem.Spec PyProof.Rows L2

def plainE : Expr → Bool
  | .Starred .. => false
  | _ => true
theorem star_cons {e : Expr} {es : List Expr} {env : PySem.Env} (h : plainE e = true) : starEach (e :: es) env = (false, eval e env) :: starEach es env := by
  cases e <;> first | rfl | cases h
theorem back_any {pos : Pos} {env : PySem.Env} : ∀ {es : List Expr}, es.all plainE = true → (backTo pos (starEach es env)).any (·.1) = false
  | [], _ => rfl
  | e :: es, h => by
    rw [List.all_cons, Bool.and_eq_true] at h
    rw [star_cons h.1]
    have ih := back_any (pos := pos) (env := env) h.2
    unfold backTo at ih ⊢
    rw [List.map_cons, List.any_cons, ih]
    rfl
section
variable {X : Cx} {x : Str} {p pos : Pos} {e : Expr} {es : List Expr}
theorem pCallB {id : String} {r : List V → Hp → VK → Prop} {f : OpN} {fs : EL} (hc : CallR X (.builtin id) r) (ok : OkN X.K r f) (hg : Gl X x) (hm : X.mg x = none) (hv : bootBuiltins x = some (.builtin id)) (hn : x ≠ "__name__") (hdb : (x == ("__debug__" : Str)) = false)
    (hp : (e :: es).all plainE = true) (ha : PA X (e :: es) (tLP X.K fs)) : PE X (.Call (.Name x p) (e :: es) [] pos) (tE X.K (eCall f fs)) := by
  rw [List.all_cons, Bool.and_eq_true] at hp
  exact PE.imp (pe_callB hc hg hm hv ha hn hdb (star_cons hp.1) (back_any hp.2)) fun _ _ _ h => tE_call ok h
theorem pCallTy {id : String} {r : List V → Hp → VK → Prop} {f : OpN} {fs : EL} (hc : CallR X (.type id) r) (ok : OkN X.K r f) (hg : Gl X x) (hm : X.mg x = none) (hv : bootBuiltins x = some (.type id)) (hn : x ≠ "__name__") (hdb : (x == ("__debug__" : Str)) = false)
    (hp : (e :: es).all plainE = true) (ha : PA X (e :: es) (tLP X.K fs)) : PE X (.Call (.Name x p) (e :: es) [] pos) (tE X.K (eCall f fs)) := by
  rw [List.all_cons, Bool.and_eq_true] at hp
  exact PE.imp (pe_callTy hc hg hm hv ha hn hdb (star_cons hp.1) (back_any hp.2)) fun _ _ _ h => tE_call ok h
end
theorem OkN.or1 {K : PySem.W.Frag} {r r' : List V → Hp → VK → Prop} {f : OpN} (h : OkN K r f) : OkN K (fun xs H Q => r xs H Q ∨ r' xs H Q) f := fun W M H x d res Q w r h1 q => .inl (h W M H x d res Q w r h1 q)

/-! ### len -/
def dLen : OpN
  | [.tup xs] => some (.int (xs.length : Nat), false)
  | [.lst xs] => some (.int (xs.length : Nat), false)
  | [.scr xs] => some (.int (xs.length : Nat), false)
  | [.str s] => if s.length ≤ LIM then some (.int (s.length : Nat), false) else none
  | [.dct ks _] => some (.int (ks.length : Nat), false)
  | _ => none
def rLenX (K : PySem.W.Frag) : List V → Hp → VK → Prop := fun xs H Q => ((∃ p ys, xs = [.ref p] ∧ (SqL K H p ys ∨ SqT K H p ys) ∧ Q (.int ys.length) H) ∨ (∃ z, xs = [.str z] ∧ z.length ≤ sizeLine ∧ Q (.int z.length) H)) ∨ (∃ a kvs, xs = [V.ref a] ∧ H a = some (.dK kvs) ∧ Q (.int kvs.length) H)
theorem call_lenX {X : Cx} : CallR X (.builtin "len") (rLenX X.K) := CallR.or (CallR.or call_len_seq call_len_str) call_lenD
theorem ok_len {K : PySem.W.Frag} : OkN K (rLenX K) dLen := by
  intro W M H x d res Q w rs h q
  unfold dLen at h
  split at h
  · cases h
    obtain ⟨v, rfl, r⟩ := RepP.one rs
    obtain ⟨a, vs, rfl, h1, r1⟩ := r.tup w
    refine .inl (.inl ⟨a, vs, rfl, .inr h1, ?_⟩)
    rw [r1.length]
    exact done_int w q
  · cases h
    obtain ⟨v, rfl, r⟩ := RepP.one rs
    obtain ⟨a, vs, rfl, h1, r1⟩ := r.lst w
    refine .inl (.inl ⟨a, vs, rfl, .inl (.inl (.inl h1)), ?_⟩)
    rw [r1.length]
    exact done_int w q
  · cases h
    obtain ⟨v, rfl, r⟩ := RepP.one rs
    obtain ⟨a, vs, rfl, h1, r1⟩ := r.scr w
    refine .inl (.inl ⟨a, vs, rfl, .inl h1, ?_⟩)
    rw [r1.length]
    exact done_int w q
  · split at h
    · rename_i hl
      cases h
      obtain ⟨v, rfl, r⟩ := RepP.one rs
      obtain ⟨rfl, _⟩ := r.str
      exact .inl (.inr ⟨_, rfl, hl, done_int w q⟩)
    · cases h
  · cases h
    obtain ⟨v, rfl, r⟩ := RepP.one rs
    obtain ⟨a, kvs, rfl, h1, rfl, r1⟩ := r.dct w
    refine .inr ⟨a, kvs, rfl, h1, ?_⟩
    rw [List.length_map] at q
    exact done_int w q
  · cases h

/-! ### tuple, list -/
def dTuple : OpN
  | [.tup xs] => some (.tup xs, false)
  | [.lst xs] => some (.tup xs, false)
  | [.scr xs] => some (.tup xs, false)
  | _ => none
theorem ok_tuple {K : PySem.W.Frag} : OkN K (fun xs H Q => ∃ p ys, xs = [.ref p] ∧ ((SqL K H p ys ∧ ∀ l, H l = none → Q (.ref l) (upd H l (.tup ys))) ∨ (SqT K H p ys ∧ Q (.ref p) H))) dTuple := by
  intro W M H x d res Q w rs h q
  unfold dTuple at h
  split at h
  · cases h
    obtain ⟨v, rfl, r⟩ := RepP.one rs
    obtain ⟨a, vs, rfl, h1, r1⟩ := r.tup w
    refine ⟨a, vs, rfl, .inr ⟨h1, ?_⟩⟩
    cases r with
    | fz r => exact q _ _ _ (Evo.refl W) w (.old r)
    | own hh rr => cases rr
  · cases h
    obtain ⟨v, rfl, r⟩ := RepP.one rs
    obtain ⟨a, vs, rfl, h1, r1⟩ := r.lst w
    refine ⟨a, vs, rfl, .inl ⟨.inl (.inl h1), fun p hp => ?_⟩⟩
    obtain ⟨W3, e3, w3, r3⟩ := w.newT hp r1
    exact q _ _ _ e3 w3 (.old r3)
  · cases h
    obtain ⟨v, rfl, r⟩ := RepP.one rs
    obtain ⟨a, vs, rfl, h1, r1⟩ := r.scr w
    refine ⟨a, vs, rfl, .inl ⟨h1, fun p hp => ?_⟩⟩
    obtain ⟨W3, e3, w3, r3⟩ := w.newT hp r1
    exact q _ _ _ e3 w3 (.old r3)
  · cases h
def dList : OpN
  | [.tup xs] => some (.lst xs, true)
  | [.lst xs] => some (.lst xs, true)
  | [.scr xs] => some (.lst xs, true)
  | _ => none
theorem ok_list {K : PySem.W.Frag} : OkN K (fun xs H Q => ∃ p ys, xs = [.ref p] ∧ (SqL K H p ys ∨ SqT K H p ys) ∧ ∀ l, H l = none → Q (.ref l) (upd H l (.lst ys))) dList := by
  intro W M H x d res Q w rs h q
  unfold dList at h
  split at h
  · cases h
    obtain ⟨v, rfl, r⟩ := RepP.one rs
    obtain ⟨a, vs, rfl, h1, r1⟩ := r.tup w
    refine ⟨a, vs, rfl, .inr h1, fun p hp => ?_⟩
    obtain ⟨w3, r3⟩ := w.newL hp (.lst r1)
    exact q _ _ _ (Evo.refl W) w3 r3
  · cases h
    obtain ⟨v, rfl, r⟩ := RepP.one rs
    obtain ⟨a, vs, rfl, h1, r1⟩ := r.lst w
    refine ⟨a, vs, rfl, .inl (.inl (.inl h1)), fun p hp => ?_⟩
    obtain ⟨w3, r3⟩ := w.newL hp (.lst r1)
    exact q _ _ _ (Evo.refl W) w3 r3
  · cases h
    obtain ⟨v, rfl, r⟩ := RepP.one rs
    obtain ⟨a, vs, rfl, h1, r1⟩ := r.scr w
    refine ⟨a, vs, rfl, .inl h1, fun p hp => ?_⟩
    obtain ⟨w3, r3⟩ := w.newL hp (.lst r1)
    exact q _ _ _ (Evo.refl W) w3 r3
  · cases h

/-! ### all, any, sum, max, min, int, abs -/
def asBls : List D → Option (List Bool)
  | [] => some []
  | .bl b :: r => (asBls r).map fun bs => b :: bs
  | _ => none
def asInts : List D → Option (List Int)
  | [] => some []
  | .int b :: r => (asInts r).map fun bs => b :: bs
  | _ => none
section
variable {K : PySem.W.Frag} {G : Hp} {al : List Addr}
theorem Reps.bls : ∀ {vs : List V} {ds : List D} {bs : List Bool}, Reps K G al vs ds → asBls ds = some bs → vs = bs.map V.bl
  | _, [], _, .nil, h => by
    cases h
    rfl
  | _, d :: ds, bs, .cons a r, h => by
    cases d with
    | bl b =>
      cases a
      unfold asBls at h
      cases e : asBls ds with
      | none =>
        rw [e] at h
        cases h
      | some cs =>
        rw [e] at h
        cases h
        rw [Reps.bls r e]
        rfl
    | _ => cases h
theorem Reps.ints : ∀ {vs : List V} {ds : List D} {bs : List Int}, Reps K G al vs ds → asInts ds = some bs → vs = bs.map V.int
  | _, [], _, .nil, h => by
    cases h
    rfl
  | _, d :: ds, bs, .cons a r, h => by
    cases d with
    | int b =>
      cases a
      unfold asInts at h
      cases e : asInts ds with
      | none =>
        rw [e] at h
        cases h
      | some cs =>
        rw [e] at h
        cases h
        rw [Reps.ints r e]
        rfl
    | _ => cases h
theorem asBls_map (bs : List Bool) : asBls (bs.map D.bl) = some bs := by
  induction bs with
  | nil => rfl
  | cons b r ih =>
    rw [List.map_cons]
    unfold asBls
    rw [ih]
    rfl
theorem asInts_map (bs : List Int) : asInts (bs.map D.int) = some bs := by
  induction bs with
  | nil => rfl
  | cons b r ih =>
    rw [List.map_cons]
    unfold asInts
    rw [ih]
    rfl
end
def dAll : OpN
  | [.lst xs] => (asBls xs).map fun bs => (.bl (bs.all id), false)
  | _ => none
def dAny : OpN
  | [.lst xs] => (asBls xs).map fun bs => (.bl (bs.any id), false)
  | _ => none
def dSum : OpN
  | [.lst xs] => (asInts xs).map fun bs => (.int bs.sum, false)
  | _ => none
theorem ok_all {K : PySem.W.Frag} : OkN K (rAll K) dAll := by
  intro W M H x d res Q w rs h q
  unfold dAll at h
  split at h
  · obtain ⟨v, rfl, r⟩ := RepP.one rs
    obtain ⟨a, vs, rfl, h1, r1⟩ := r.lst w
    rename_i xs
    cases e : asBls xs with
    | none =>
      rw [e] at h
      cases h
    | some bs =>
      rw [e] at h
      cases h
      have z := r1.bls e
      subst z
      exact ⟨a, bs, rfl, .inl (.inl h1), done_bl w q⟩
  · cases h
theorem ok_any {K : PySem.W.Frag} : OkN K (rAny K) dAny := by
  intro W M H x d res Q w rs h q
  unfold dAny at h
  split at h
  · obtain ⟨v, rfl, r⟩ := RepP.one rs
    obtain ⟨a, vs, rfl, h1, r1⟩ := r.lst w
    rename_i xs
    cases e : asBls xs with
    | none =>
      rw [e] at h
      cases h
    | some bs =>
      rw [e] at h
      cases h
      have z := r1.bls e
      subst z
      exact ⟨a, bs, rfl, .inl (.inl h1), done_bl w q⟩
  · cases h
theorem ok_sum {K : PySem.W.Frag} : OkN K (rSum K) dSum := by
  intro W M H x d res Q w rs h q
  unfold dSum at h
  split at h
  · obtain ⟨v, rfl, r⟩ := RepP.one rs
    obtain ⟨a, vs, rfl, h1, r1⟩ := r.lst w
    rename_i xs
    cases e : asInts xs with
    | none =>
      rw [e] at h
      cases h
    | some bs =>
      rw [e] at h
      cases h
      have z := r1.ints e
      subst z
      exact ⟨a, bs, rfl, .inl (.inl h1), done_int w q⟩
  · cases h
def dMax2 : OpN
  | [.int i, .int j] => some (.int (if j > i then j else i), false)
  | _ => none
def dMin2 : OpN
  | [.int i, .int j] => some (.int (if j < i then j else i), false)
  | _ => none
theorem ok_max2 {K : PySem.W.Frag} : OkN K (fun xs H Q => ∃ i j, xs = [.int i, .int j] ∧ Q (.int (if j > i then j else i)) H) dMax2 := by
  intro W M H x d res Q w rs h q
  unfold dMax2 at h
  split at h
  · cases h
    obtain ⟨v, u, rfl, r, r'⟩ := RepPs.two rs
    rw [r.int, r'.int]
    exact ⟨_, _, rfl, done_int w q⟩
  · cases h
theorem ok_min2 {K : PySem.W.Frag} : OkN K (fun xs H Q => ∃ i j, xs = [.int i, .int j] ∧ Q (.int (if j < i then j else i)) H) dMin2 := by
  intro W M H x d res Q w rs h q
  unfold dMin2 at h
  split at h
  · cases h
    obtain ⟨v, u, rfl, r, r'⟩ := RepPs.two rs
    rw [r.int, r'.int]
    exact ⟨_, _, rfl, done_int w q⟩
  · cases h
def dInt : OpN
  | [.int i] => some (.int i, false)
  | [.bl k] => some (.int (if k then 1 else 0), false)
  | _ => none
theorem ok_int {K : PySem.W.Frag} : OkN K (fun xs H Q => (∃ i, xs = [.int i] ∧ Q (.int i) H) ∨ ∃ k, xs = [.bl k] ∧ Q (.int (if k then 1 else 0)) H) dInt := by
  intro W M H x d res Q w rs h q
  unfold dInt at h
  split at h
  · cases h
    obtain ⟨v, rfl, r⟩ := RepP.one rs
    rw [r.int]
    exact .inl ⟨_, rfl, done_int w q⟩
  · cases h
    obtain ⟨v, rfl, r⟩ := RepP.one rs
    rw [r.bl]
    exact .inr ⟨_, rfl, done_int w q⟩
  · cases h
def dAbs : OpN
  | [.int i] => some (.int (if i < 0 then -i else i), false)
  | _ => none
theorem ok_abs {K : PySem.W.Frag} : OkN K (fun xs H Q => ∃ i, xs = [.int i] ∧ Q (.int (if i < 0 then -i else i)) H) dAbs := by
  intro W M H x d res Q w rs h q
  unfold dAbs at h
  split at h
  · cases h
    obtain ⟨v, rfl, r⟩ := RepP.one rs
    rw [r.int]
    exact ⟨_, rfl, done_int w q⟩
  · cases h

/-! ### isinstance(x, T) -/
def D.tyName : D → Option String
  | .non => some "NoneType"
  | .bl _ => some "bool"
  | .int _ => some "int"
  | .str _ => some "str"
  | .tup _ => some "tuple"
  | .lst _ => some "list"
  | .scr _ => some "list"
  | .dct _ _ => some "dict"
  | .obj _ => none
theorem RepP.tyX {K : PySem.W.Frag} {W : Wd} {M : List MO} {H : Hp} {v : V} {d : D} {t : String} (w : Rw K W M H) (h : RepP K W v d) (e : d.tyName = some t) : TyX K H v (.type t) := by
  cases d with
  | non =>
    rw [h.non]
    cases e
    exact .base .non
  | bl b =>
    rw [h.bl]
    cases e
    exact .base (.bl b)
  | int b =>
    rw [h.int]
    cases e
    exact .base (.int b)
  | str b =>
    rw [h.str.1]
    cases e
    exact .base (.str b)
  | tup xs =>
    obtain ⟨a, vs, rfl, h1, r1⟩ := h.tup w
    cases e
    rcases h1 with (h1 | ⟨o, h1⟩) | ⟨o, its, n, h1, hc, _⟩
    · exact .base (.tup h1)
    · exact .fTuple h1
    · exact .kTuple h1 hc
  | lst xs =>
    obtain ⟨a, vs, rfl, h1, r1⟩ := h.lst w
    cases e
    exact .base (.lst h1)
  | scr xs =>
    obtain ⟨a, vs, rfl, h1, r1⟩ := h.scr w
    cases e
    rcases h1 with (h1 | ⟨o, h1⟩) | ⟨o, its, n, h1, hc, _⟩
    · exact .base (.lst h1)
    · exact .base (.frz h1)
    · exact .kList h1 hc
  | dct ks ds =>
    obtain ⟨a, kvs, rfl, h1, _, r1⟩ := h.dct w
    cases e
    exact .base (.dK h1)
  | obj n => cases e
def dIsi (T : String) : Op1 := fun d => match d.tyName with
  | some t => if t = "int" ∧ T = "int" ∨ t = "bool" ∧ T = "bool" ∨ t = "str" ∧ T = "str" ∨ t = "tuple" ∧ T = "tuple" ∨ t = "bool" ∧ T = "int" then some (.bl true, false)
    else (kitB t T).map fun b => (.bl b, false)
  | none => none
theorem kit_int : kitB "int" "int" = some true := by decide +kernel
theorem kit_bool : kitB "bool" "bool" = some true := by decide +kernel
theorem kit_str : kitB "str" "str" = some true := by decide +kernel
theorem kit_tuple : kitB "tuple" "tuple" = some true := by decide +kernel
theorem kit_bool_int : kitB "bool" "int" = some true := by decide +kernel
theorem dIsi_some {T : String} {d : D} {res : D × Bool} (h : dIsi T d = some res) : ∃ t b, d.tyName = some t ∧ kitB t T = some b ∧ res = (.bl b, false) := by
  unfold dIsi at h
  split at h
  · rename_i t ht
    split at h
    · rename_i hc
      cases h
      refine ⟨t, true, ht, ?_, rfl⟩
      rcases hc with ⟨rfl, rfl⟩ | ⟨rfl, rfl⟩ | ⟨rfl, rfl⟩ | ⟨rfl, rfl⟩ | ⟨rfl, rfl⟩
      · exact kit_int
      · exact kit_bool
      · exact kit_str
      · exact kit_tuple
      · exact kit_bool_int
    · cases hb : kitB t T with
      | none =>
        rw [hb] at h
        cases h
      | some b =>
        rw [hb] at h
        cases h
        exact ⟨t, b, ht, hb, rfl⟩
  · cases h
section
variable {X : Cx} {x y : Str} {p p2 pos : Pos} {e : Expr}
theorem pIsi {T : String} {fa : EP} (hg : Gl X x) (hm : X.mg x = none) (hx : x = "isinstance") (hg2 : Gl X y) (hm2 : X.mg y = none) (hv2 : bootBuiltins y = some (.type T)) (hn2 : y ≠ "__name__") (hdb2 : (y == ("__debug__" : Str)) = false)
    (hp : plainE e = true) (ha : PE X e (tP X.K fa)) : PE X (.Call (.Name x p) [e, .Name y p2] [] pos) (tE X.K (eUn (dIsi T) fa)) := by
  subst hx
  refine PE.imp (pe_callB call_isi hg hm (by decide +kernel) (pa_cons ha (pa_cons (pe_bltn (v := .ty T) hg2 hm2 hv2 rfl hn2 hdb2) pa_nil) (star_cons hp)) (by decide) (by decide) (star_cons hp) (back_any (by rfl))) fun σ H Q h => ?_
  have h2 := tE_un (K := X.K) (r := fun v H Q => ∃ (t : Value) (b : Bool), TyX X.K H v t ∧ PySem.W.kitOne X.K t (.type T) = some b ∧ Q (.bl b) H) (f := dIsi T) (fun W M H v d res Q w r h q => by
    obtain ⟨t, b, h1, h2, rfl⟩ := dIsi_some h
    exact ⟨.type t, b, r.tyX w h1, kit_ty h2, done_bl w q⟩) h
  obtain ⟨W, env, M, d, M', w, re, e1, q⟩ := h2
  refine ⟨W, env, M, d, M', w, re, e1, fun v H' W' v1 w1 r1 => ?_⟩
  obtain ⟨t, b, a1, a2, a3⟩ := q v H' W' v1 w1 r1
  exact ⟨v, .ty T, t, .type T, b, rfl, .ty T, a1, a2, a3⟩
end

/-! ### in -/
theorem eqvs_any (ds : List D) (d : D) : ((D.pys ds).any fun z => PyData.eqv z d.py) = ds.any fun z => z.eqv d := by
  induction ds with
  | nil => rfl
  | cons x r ih =>
    simp only [D.pys, List.any_cons, ih]
    rfl
def rInX (K : PySem.W.Frag) (neg : Bool) : R2 := fun x y H Q => ∃ d ds, Dp K H x d ∧ (Dp K H y (.list ds) ∨ Dp K H y (.tuple ds)) ∧ d.canLay0 = true ∧ PyData.canLayAll0 ds = true ∧ min (PyData.depthAll ds) d.depth ≤ 64 ∧ Q (.bl (if neg then !(ds.any fun z => PyData.eqv z d) else (ds.any fun z => PyData.eqv z d))) H
section
variable {X : Cx}
theorem op_inX (hu : X.A.units + 66 < cLine) : OpR X (compareOp .In) (rInX X.K false) := by
  intro pins s σ H x y v u Q I rx ry h
  obtain ⟨d, ds, hd, he, sd, se, hm, q⟩ := h
  obtain ⟨as, r1⟩ := Dp.reads I d x v hd rx
  rcases he with he | he
  · obtain ⟨bs, r2⟩ := Dp.reads I (.list ds) y u he ry
    exact SeqAt.in_list_reads r2 r1 se sd (by omega) ⟨.bl _, H, I, rfl, q⟩
  · obtain ⟨bs, r2⟩ := Dp.reads I (.tuple ds) y u he ry
    exact SeqAt.in_tuple_reads r2 r1 se sd (by omega) ⟨.bl _, H, I, rfl, q⟩
theorem op_notInX (hu : X.A.units + 66 < cLine) : OpR X (compareOp .NotIn) (rInX X.K true) := by
  intro pins s σ H x y v u Q I rx ry h
  obtain ⟨d, ds, hd, he, sd, se, hm, q⟩ := h
  obtain ⟨as, r1⟩ := Dp.reads I d x v hd rx
  rcases he with he | he
  · obtain ⟨bs, r2⟩ := Dp.reads I (.list ds) y u he ry
    exact SeqAt.notIn_list_reads r2 r1 se sd (by omega) ⟨.bl _, H, I, rfl, q⟩
  · obtain ⟨bs, r2⟩ := Dp.reads I (.tuple ds) y u he ry
    exact SeqAt.notIn_tuple_reads r2 r1 se sd (by omega) ⟨.bl _, H, I, rfl, q⟩
end
def D.okIn (d : D) (ds : List D) : Bool := d.pure && D.pures ds && decide (min (D.depths ds) d.depth ≤ 64)
/-- is x one of xs -/
def D.has (d : D) (ds : List D) : Bool := ds.any fun z => z.eqv d
theorem eval_any (ds : List D) (d : D) : ((D.pys ds).any fun z => PyData.eqv z d.py) = d.has ds := eqvs_any ds d
def dIn (neg : Bool) : Op2
  | d, .tup ds => if d.okIn ds then some (.bl (if neg then !d.has ds else d.has ds), false) else none
  | d, .lst ds => if d.okIn ds then some (.bl (if neg then !d.has ds else d.has ds), false) else none
  | .str x, .str y => some (.bl (if neg then !(!(Builtin.Str.occurrences y x 0 y.length 1).isEmpty) else !(Builtin.Str.occurrences y x 0 y.length 1).isEmpty), false)
  | _, _ => none
theorem okIn_of {d : D} {ds : List D} (h : d.okIn ds = true) : d.pure = true ∧ D.pures ds = true ∧ min (PyData.depthAll (D.pys ds)) d.py.depth ≤ 64 := by
  unfold D.okIn at h
  simp only [Bool.and_eq_true, decide_eq_true_eq] at h
  obtain ⟨⟨h1, h2⟩, h3⟩ := h
  refine ⟨h1, h2, ?_⟩
  rw [D.depth_py d h1, D.depths_py ds h2]
  exact h3
def rInS (neg : Bool) : R2 := fun x y H Q => ∃ i j, x = .str i ∧ y = .str j ∧ Q (.bl (if neg then !(!(Builtin.Str.occurrences j i 0 j.length 1).isEmpty) else !(Builtin.Str.occurrences j i 0 j.length 1).isEmpty)) H
theorem ok_in {K : PySem.W.Frag} {neg : Bool} : Ok2 K (fun x y H Q => rInX K neg x y H Q ∨ rInS neg x y H Q) (dIn neg) := by
  intro W M H x y d e res Q w rx ry h q
  unfold dIn at h
  split at h
  · split at h
    · rename_i hk
      cases h
      obtain ⟨p1, p2, p3⟩ := okIn_of hk
      obtain ⟨a1, a2⟩ := rx.dp w p1
      obtain ⟨b1, b2⟩ := ry.dp w (by simpa [D.pure] using p2)
      refine .inl ⟨_, _, a1, .inr b1, a2, by simpa [D.py, PyData.canLay0] using b2, p3, ?_⟩
      rw [eval_any]
      exact done_bl w q
    · cases h
  · split at h
    · rename_i hk
      cases h
      obtain ⟨p1, p2, p3⟩ := okIn_of hk
      obtain ⟨a1, a2⟩ := rx.dp w p1
      obtain ⟨b1, b2⟩ := ry.dp w (by simpa [D.pure] using p2)
      refine .inl ⟨_, _, a1, .inl b1, a2, by simpa [D.py, PyData.canLay0] using b2, p3, ?_⟩
      rw [eval_any]
      exact done_bl w q
    · cases h
  · cases h
    exact .inr ⟨_, _, rx.str.1, ry.str.1, done_bl w q⟩
  · cases h
section
variable {X : Cx}
theorem op_inS : OpR X (compareOp .In) (rInS false) := op_in_str
theorem op_notInS : OpR X (compareOp .NotIn) (rInS true) := op_notin_str
end

/-! ### list.index -/
/-- the first place of an equal one -/
def D.ixOf (d : D) : List D → Option Nat
  | [] => none
  | z :: r => if z.eqv d then some 0 else (D.ixOf d r).map (· + 1)
theorem ixOf_some {d : D} : ∀ {ds : List D} {j : Nat}, d.ixOf ds = some j → ∃ z, ds[j]? = some z ∧ z.eqv d = true ∧ ∀ (m : Nat) (z' : D), m < j → ds[m]? = some z' → z'.eqv d = false
  | [], _, h => by cases h
  | z :: r, j, h => by
    unfold D.ixOf at h
    by_cases e : z.eqv d = true
    · rw [if_pos e] at h
      cases h
      exact ⟨z, rfl, e, fun m _ hm => absurd hm (Nat.not_lt_zero m)⟩
    · rw [if_neg e] at h
      cases e2 : d.ixOf r with
      | none =>
        rw [e2] at h
        cases h
      | some k =>
        rw [e2] at h
        cases h
        obtain ⟨y, h1, h2, h3⟩ := ixOf_some e2
        refine ⟨y, h1, h2, fun m z' hm hz => ?_⟩
        cases m with
        | zero =>
          cases hz
          simpa using e
        | succ m => exact h3 m z' (Nat.lt_of_succ_lt_succ hm) hz
theorem pys_get {ds : List D} {j : Nat} : (D.pys ds)[j]? = (ds[j]?).map D.py := by
  induction ds generalizing j with
  | nil => rfl
  | cons x r ih =>
    cases j with
    | zero => rfl
    | succ j => exact ih
def dIndex : Op2
  | .lst ds, d => if d.pure && D.pures ds && decide (D.depths ds < 64) && decide (d.depth ≤ 64) then (d.ixOf ds).map fun j => (.int (j : Nat), false) else none
  | _, _ => none
end R

set_option Elab.async false
set_option linter.all false
set_option maxRecDepth 100000
set_option maxHeartbeats 2000000
/-! R5: what is walked; targets; comprehensions -/
namespace R
open PySem PySem.Spec PyProof.Rows L2

/-! ### targets -/
inductive Tg where
  | nm (i : Nat)
  | tp (ts : List Tg)
mutual
/-- a value is bound to a target -/
def Tg.bind : Tg → D → Env → Option Env
  | .nm i, d, env => if i < env.length then some (env.set i (.fz d)) else none
  | .tp ts, .tup ds, env => Tg.binds ts ds env
  | .tp _, _, _ => none
def Tg.binds : List Tg → List D → Env → Option Env
  | [], [], env => some env
  | t :: ts, d :: ds, env => match Tg.bind t d env with
    | some e1 => Tg.binds ts ds e1
    | none => none
  | _, _, _ => none
end
mutual
/-- a target's slots -/
def Tg.slots : Tg → List Nat
  | .nm i => [i]
  | .tp ts => Tg.slotss ts
def Tg.slotss : List Tg → List Nat
  | [] => []
  | t :: ts => Tg.slots t ++ Tg.slotss ts
end
def tG (K : PySem.W.Frag) (t : Tg) : TG := fun v σ H Q => ∃ W env M d env', Rw K W M H ∧ Re K W env σ ∧ RepW K W v d ∧ t.bind d env = some env' ∧ ∀ σ', Re K W env' σ' → (∀ j, j ∉ t.slots → σ'[j]? = σ[j]?) → σ'.length = σ.length → Q σ' H
def tGs (K : PySem.W.Frag) (t : List Tg) : TGs := fun v σ H Q => ∃ W env M d env', Rw K W M H ∧ Re K W env σ ∧ RepsW K W v d ∧ Tg.binds t d env = some env' ∧ ∀ σ', Re K W env' σ' → (∀ j, j ∉ Tg.slotss t → σ'[j]? = σ[j]?) → σ'.length = σ.length → Q σ' H
theorem PG.imp {X : Cx} {e : Expr} {t t' : TG} (h : PG X e t) (i : ∀ v σ H Q, t' v σ H Q → t v σ H Q) : PG X e t' := ⟨fun pins s σ H v u Q I r q => h.run pins s σ H v u Q I r (i v σ H Q q)⟩
theorem PGs.imp {X : Cx} {e : List Expr} {t t' : TGs} (h : PGs X e t) (i : ∀ v σ H Q, t' v σ H Q → t v σ H Q) : PGs X e t' := ⟨fun pins s σ H v u Q I r q => h.run pins s σ H v u Q I r (i v σ H Q q)⟩
theorem Re.setFz {K : PySem.W.Frag} {W : Wd} {env : Env} {σ : L2.St} {i : Nat} {v : V} {d : D} (re : Re K W env σ) (hi : i < env.length) (r : RepW K W v d) : Re K W (env.set i (.fz d)) (σ.set i (some v)) := by
  have hl := re.len
  refine ⟨by rw [List.length_set, List.length_set]; exact hl, fun j s hj => ?_, fun j k d1 d2 a h1 h2 h3 h4 => ?_⟩
  · by_cases z : i = j
    · subst z
      rw [List.getElem?_set_self hi] at hj
      cases hj
      rw [List.getElem?_set_self (by omega)]
      exact .fz r
    · rw [List.getElem?_set_ne z] at hj ⊢
      exact re.at_ j s hj
  · have n1 : i ≠ j := fun z => by
      subst z
      rw [List.getElem?_set_self hi] at h1
      cases h1
    have n2 : i ≠ k := fun z => by
      subst z
      rw [List.getElem?_set_self hi] at h2
      cases h2
    rw [List.getElem?_set_ne n1] at h1 h3
    rw [List.getElem?_set_ne n2] at h2 h4
    exact re.inj j k d1 d2 a h1 h2 h3 h4
section
variable {X : Cx} {pos : Pos} {e : Expr} {es : List Expr}
theorem gNm {i : Nat} {x : Str} (hN : X.N.Nodup) (hi : X.N[i]? = some x) (hx : Loc X.env.scope x) (hf : X.fn x = true ∨ X.env.scope.names.lookup x = some .local) : PG X (.Name x pos) (tG X.K (.nm i)) := PG.imp (pg_name hN hi hx hf) fun v σ H Q h => by
  obtain ⟨W, env, M, d, env', w, re, r, e, q⟩ := h
  unfold Tg.bind at e
  split at e
  · rename_i hl
    cases e
    refine q _ (re.setFz hl r) (fun j hj => ?_) (by rw [List.length_set])
    have z : i ≠ j := fun z => hj (by rw [z]; simp [Tg.slots])
    rw [List.getElem?_set_ne z]
  · cases e
theorem gsNil : PGs X [] (tGs X.K []) := PGs.imp pgs_nil fun v σ H Q h => by
  obtain ⟨W, env, M, d, env', w, re, r, e, q⟩ := h
  cases d with
  | nil =>
    cases r
    cases e
    exact ⟨rfl, q σ re (fun _ _ => rfl) rfl⟩
  | cons a b => cases e
theorem asg_cons {e : Expr} {es : List Expr} {env : PySem.Env} (h : plainE e = true) : assignEach (e :: es) env = (false, assign e env) :: assignEach es env := by
  cases e <;> first | rfl | cases h
theorem asg_all {env : PySem.Env} : ∀ {es : List Expr}, es.all plainE = true → (assignEach es env).findIdx? (·.1) = none ∧ (assignEach es env).length = es.length
  | [], _ => ⟨rfl, rfl⟩
  | e :: es, h => by
    rw [List.all_cons, Bool.and_eq_true] at h
    obtain ⟨h1, h2⟩ := asg_all (env := env) h.2
    rw [asg_cons h.1, List.findIdx?_cons, h1, List.length_cons, h2]
    exact ⟨rfl, rfl⟩
theorem gsCons {t : Tg} {ts : List Tg} (hp : plainE e = true) (h1 : PG X e (tG X.K t)) (h2 : PGs X es (tGs X.K ts)) : PGs X (e :: es) (tGs X.K (t :: ts)) := PGs.imp (pgs_cons h1 h2 (by rw [asg_cons hp]; rfl)) fun v σ H Q h => by
  obtain ⟨W, env, M, d, env', w, re, r, e, q⟩ := h
  cases d with
  | nil => cases e
  | cons a b =>
    cases r with
    | cons ra rb =>
      unfold Tg.binds at e
      split at e
      · rename_i e1 he1
        refine ⟨_, _, rfl, W, env, M, a, e1, w, re, ra, he1, fun σ1 re1 f1 l1 => ⟨W, e1, M, b, env', w, re1, rb, e, fun σ2 re2 f2 l2 => q σ2 re2 (fun j hj => ?_) (l2.trans l1)⟩⟩
        simp only [Tg.slotss, List.mem_append, not_or] at hj
        rw [f2 j hj.2, f1 j hj.1]
      · cases e
theorem gTp {x1 : Nat} {ts : List Tg} (hc : X.calm = true) (hp : es.all plainE = true) (h : PGs X es (tGs X.K ts)) (hl : es.length = ts.length) : PG X (.Tuple es x1 pos) (tG X.K (.tp ts)) := PG.imp (pg_tup hc h (asg_all hp).2 (asg_all hp).1) fun v σ H Q h => by
  obtain ⟨W, env, M, d, env', w, re, r, e, q⟩ := h
  cases d with
  | tup ds =>
    cases r with
    | tup hh rr =>
      refine ⟨_, _, rfl, w.g.sqT hh, ?_, W, env, M, ds, env', w, re, rr, e, q⟩
      have key : ∀ (ts : List Tg) (ds : List D) (env env' : Env), Tg.binds ts ds env = some env' → ts.length = ds.length := by
        intro ts
        induction ts with
        | nil =>
          intro ds env env' h
          cases ds with
          | nil => rfl
          | cons a b => cases h
        | cons t ts ih =>
          intro ds env env' h
          cases ds with
          | nil => cases h
          | cons a b =>
            unfold Tg.binds at h
            split at h
            · rw [List.length_cons, List.length_cons, ih _ _ _ h]
            · cases h
      rw [rr.length, hl]
      exact (key ts ds env env' e).symm
  | _ => cases e
end

/-! ### what is walked -/
/-- a step of the world by statements: the frame's own lists may change -/
structure EvoS (W W' : Wd) : Prop where
  g : Le W.G W'.G
  b : W'.B = W.B
  al : Pre W.al W'.al
theorem EvoS.refl (W : Wd) : EvoS W W := ⟨Le.refl _, rfl, Pre.refl _⟩
theorem EvoS.trans {W W1 W2 : Wd} (a : EvoS W W1) (b : EvoS W1 W2) : EvoS W W2 := ⟨a.g.trans b.g, b.b.trans a.b, a.al.trans b.al⟩
theorem Evo.s {W W' : Wd} (e : Evo W W') : EvoS W W' := ⟨e.g, e.b, e.al⟩
theorem Rep.evoS {K : PySem.W.Frag} {W W' : Wd} {v : V} {d : D} (h : RepW K W v d) (e : EvoS W W') : RepW K W' v d := Rep.mono e.g e.al h
theorem Reps.evoS {K : PySem.W.Frag} {W W' : Wd} {v : List V} {d : List D} (h : RepsW K W v d) (e : EvoS W W') : RepsW K W' v d := Reps.mono e.g e.al h
/-- .. without a word of the others' objects (and of the frame's own lists) -/
structure EvoO (W W' : Wd) : Prop where
  g : Le W.G W'.G
  o : W'.O = W.O
  al : Pre W.al W'.al
structure EvoG (W W' : Wd) : Prop where
  g : Le W.G W'.G
  al : Pre W.al W'.al
theorem Evo.oo {W W' : Wd} (e : Evo W W') : EvoO W W' := ⟨e.g, e.o, e.al⟩
theorem EvoS.gg {W W' : Wd} (e : EvoS W W') : EvoG W W' := ⟨e.g, e.al⟩
theorem EvoO.gg {W W' : Wd} (e : EvoO W W') : EvoG W W' := ⟨e.g, e.al⟩
theorem EvoO.trans {W W1 W2 : Wd} (a : EvoO W W1) (b : EvoO W1 W2) : EvoO W W2 := ⟨a.g.trans b.g, b.o.trans a.o, a.al.trans b.al⟩
theorem EvoG.trans {W W1 W2 : Wd} (a : EvoG W W1) (b : EvoG W1 W2) : EvoG W W2 := ⟨a.g.trans b.g, a.al.trans b.al⟩
theorem RepP.evoO {K : PySem.W.Frag} {W W' : Wd} {v : V} {d : D} (h : RepP K W v d) (e : EvoO W W') : RepP K W' v d := by
  cases h with
  | fz h => exact .fz (Rep.mono e.g e.al h)
  | own h r => exact .own (by rw [e.o]; exact h) (r.mono e.g e.al)
theorem Rep.evoG {K : PySem.W.Frag} {W W' : Wd} {v : V} {d : D} (h : RepW K W v d) (e : EvoG W W') : RepW K W' v d := Rep.mono e.g e.al h
/-- the walk hands out just these, whatever happens beside it -/
def IterOk (K : PySem.W.Frag) (W₀ : Wd) (J : It) (ds : List D) : Prop :=
  ∀ (i : Nat) (W : Wd) (M : List MO) (H : Hp), EvoO W₀ W → Rw K W M H →
    (ds.length = i → J.stop i H) ∧ (∀ d, ds[i]? = some d → J.go i H ∧ ∀ x H', J.yld i H x H' → ∃ W', Evo W W' ∧ Rw K W' M H' ∧ RepW K W' x d)
def IterOkS (K : PySem.W.Frag) (W₀ : Wd) (J : It) (ds : List D) : Prop :=
  ∀ (i : Nat) (W : Wd) (M : List MO) (H : Hp), EvoG W₀ W → Rw K W M H →
    (ds.length = i → J.stop i H) ∧ (∀ d, ds[i]? = some d → J.go i H ∧ ∀ x H', J.yld i H x H' → ∃ W', Evo W W' ∧ Rw K W' M H' ∧ RepW K W' x d)
/-- a walk as compiled: its items -/
abbrev EI := Env → List MO → Option (List D × List MO)
def tI (K : PySem.W.Frag) (f : EI) : TI := fun σ H R => ∃ W env M ds M', Rw K W M H ∧ Re K W env σ ∧ f env M = some (ds, M') ∧ ∀ J H' W', Evo W W' → Rw K W' M' H' → IterOk K W' J ds → R J H'
def tIS (K : PySem.W.Frag) (f : EI) : TI := fun σ H R => ∃ W env M ds M', Rw K W M H ∧ Re K W env σ ∧ f env M = some (ds, M') ∧ ∀ J H' W', Evo W W' → Rw K W' M' H' → IterOkS K W' J ds → R J H'
/-- a list, a tuple, walked -/
def seqItems : D → Option (List D)
  | .tup xs => some xs
  | .lst xs => some xs
  | .scr xs => some xs
  | _ => none
def chars (s : Str) : List D := s.cps.toList.map fun c => .str ⟨#[c]⟩
/-- .. a text, too -/
def walkD : D → Option (List D)
  | .str s => some (chars s)
  | d => seqItems d
def iSeqX (K : PySem.W.Frag) (tl : TE) : TI := fun σ H R => tl σ H fun x H1 => (∃ a, x = .ref a ∧ (((∃ xs, SqL K H1 a xs) ∧ R (Itl K a) H1) ∨ ((∃ xs, SqT K H1 a xs) ∧ R (Itt K a) H1))) ∨ ∃ s, x = .str s ∧ R (Its s) H1
def iSeq (f : EP) : EI := fun env M => match f env M with
  | some (d, M1) => (walkD d).map fun xs => (xs, M1)
  | none => none
theorem iSeq_some {f : EP} {env : Env} {M M' : List MO} {ds : List D} (e : iSeq f env M = some (ds, M')) : ∃ d, f env M = some (d, M') ∧ walkD d = some ds := by
  unfold iSeq at e
  split at e
  · rename_i d M1 h
    cases hd : walkD d with
    | none =>
      rw [hd] at e
      cases e
    | some xs =>
      rw [hd] at e
      cases e
      exact ⟨d, h, hd⟩
  · cases e
theorem walk_str {K : PySem.W.Frag} (W₀ : Wd) {s : Str} (ok : PyData.strOk s = true) : IterOkS K W₀ (Its s) (chars s) := fun i W M H _ w => by
  have hl : (chars s).length = s.cps.size := by
    unfold chars
    rw [List.length_map, Array.length_toList]
  refine ⟨fun h => Nat.le_of_eq (hl.symm.trans h), fun d hd => ?_⟩
  unfold chars at hd
  rw [List.getElem?_map, Array.getElem?_toList] at hd
  cases hc : s.cps[i]? with
  | none =>
    rw [hc] at hd
    cases hd
  | some c =>
    rw [hc] at hd
    cases hd
    refine ⟨(Array.getElem?_eq_some_iff.mp hc).1, fun x H' ⟨e1, c', e2, e3⟩ => ?_⟩
    rw [hc] at e2
    cases e2
    subst e1 e3
    refine ⟨W, Evo.refl W, w, .str _ ?_⟩
    unfold PyData.strOk at ok ⊢
    rw [Array.all_eq_true] at ok
    obtain ⟨hi, e4⟩ := Array.getElem?_eq_some_iff.mp hc
    have z := ok i hi
    rw [e4] at z
    simpa using z
theorem IterOkS.p0 {K : PySem.W.Frag} {W₀ : Wd} {J : It} {ds : List D} (h : IterOkS K W₀ J ds) : IterOk K W₀ J ds := fun i W M H e w => h i W M H e.gg w
theorem walk_lst {K : PySem.W.Frag} {W : Wd} {M : List MO} {H : Hp} {a : Addr} {vs : List V} {ds : List D} (i : Nat) (w : Rw K W M H) (h : SqL K H a vs) (r : RepsW K W vs ds) :
    (ds.length = i → (Itl K a).stop i H) ∧ (∀ d, ds[i]? = some d → (Itl K a).go i H ∧ ∀ x H', (Itl K a).yld i H x H' → ∃ W', Evo W W' ∧ Rw K W' M H' ∧ RepW K W' x d) := by
  refine ⟨fun hl => ⟨vs, h, by rw [r.length]; exact Nat.le_of_eq hl⟩, fun d hd => ?_⟩
  obtain ⟨v, hv, rv⟩ := r.get hd
  refine ⟨⟨vs, v, h, hv⟩, fun x H' y => ?_⟩
  obtain ⟨rfl, y⟩ := y
  have e := y vs h
  rw [hv] at e
  cases e
  exact ⟨W, Evo.refl W, w, rv⟩
theorem walk_tup {K : PySem.W.Frag} {W : Wd} {M : List MO} {H : Hp} {a : Addr} {vs : List V} {ds : List D} (i : Nat) (w : Rw K W M H) (h : SqT K H a vs) (r : RepsW K W vs ds) :
    (ds.length = i → (Itt K a).stop i H) ∧ (∀ d, ds[i]? = some d → (Itt K a).go i H ∧ ∀ x H', (Itt K a).yld i H x H' → ∃ W', Evo W W' ∧ Rw K W' M H' ∧ RepW K W' x d) := by
  refine ⟨fun hl => ⟨vs, h, by rw [r.length]; exact Nat.le_of_eq hl⟩, fun d hd => ?_⟩
  obtain ⟨v, hv, rv⟩ := r.get hd
  refine ⟨⟨vs, v, h, hv⟩, fun x H' y => ?_⟩
  obtain ⟨rfl, y⟩ := y
  have e := y vs h
  rw [hv] at e
  cases e
  exact ⟨W, Evo.refl W, w, rv⟩
section
variable {X : Cx} {tg : Expr}
theorem pi_seqX {l : Expr} {tl : TE} (hl : PE X l tl) : PI X tg l (iSeqX X.K tl) := by
  refine ⟨fun pins s σ H R I h => ?_⟩
  have two := thn (Q' := fun v s1 => wpAny (model X.prog X.w) X.A (pyIter v) (PIE X pins σ tg R) X.xe s1) (hl.run pins s σ H _ I h) fun v s1 ⟨x, H1, I1, r1, q1⟩ => by
    rcases q1 with ⟨a, e, q⟩ | ⟨y, e, q⟩
    case inr =>
      subst e
      obtain ⟨t, rfl⟩ := r1
      cases ha : y.cps.all (· < 128)
      · exact wpAny_pyIter_wide ha (pi_one (tk := s1.toks) I1 _ (turn_str _ y t "str_iterator" (.inr rfl)) ⟨_, Heap.get?_push_size _ rfl, rfl, rfl⟩ q)
      · exact wpAny_pyIter_ascii ha (pi_one (tk := s1.toks) I1 _ (turn_str _ y t "str_ascii_iterator" (.inl rfl)) ⟨_, Heap.get?_push_size _ rfl, rfl, rfl⟩ q)
    subst e
    cases r1
    have sz : s1.heap.objs.size = s1.heap.objs.size := rfl
    rcases q with ⟨⟨xs, hq⟩, q⟩ | ⟨⟨xs, hq⟩, q⟩
    · obtain ⟨its, rv, p, hz⟩ := I1.list hq
      refine wpAny_pyIter_list p.isList ⟨s1.heap.objs.size, [s1.heap.objs.size], _, _, H1, rfl, I1.kept (t' := s1.toks) fun b o e => Heap.get?_push_of_some _ e, turn_list a _, ⟨_, Heap.get?_push_size _ rfl, rfl, rfl⟩, fun b hb => ?_, q⟩
      rw [List.mem_singleton.mp hb]
      exact I1.fpOk (Nat.le_refl _) (I1.hok.fresh (Nat.le_refl _))
    · obtain ⟨its, rv, p, hz⟩ := I1.tuple hq
      refine wpAny_pyIter_tuple (show s1.heap.IsTuple a its.toArray from p) ⟨s1.heap.objs.size, [s1.heap.objs.size], _, _, H1, rfl, I1.kept (t' := s1.toks) fun b o e => Heap.get?_push_of_some _ e, turn_tuple a _, ⟨_, Heap.get?_push_size _ rfl, rfl, rfl⟩, fun b hb => ?_, q⟩
      rw [List.mem_singleton.mp hb]
      exact I1.fpOk (Nat.le_refl _) (I1.hok.fresh (Nat.le_refl _))
  exact two
theorem iSeqP {l : Expr} {f : EP} (hl : PE X l (tP X.K f)) : PI X tg l (tI X.K (iSeq f)) := PI.imp (pi_seqX hl) fun σ H R h => by
  obtain ⟨W, env, M, ds, M', w, re, e, q⟩ := h
  obtain ⟨d, e1, e2⟩ := iSeq_some e
  refine ⟨W, env, M, d, M', w, re, e1, fun v H' W' ev w' r => ?_⟩
  cases d with
  | tup xs =>
    cases e2
    obtain ⟨a, vs, rfl, h1, r1⟩ := r.tup w'
    refine .inl ⟨a, rfl, .inr ⟨⟨vs, h1⟩, q _ _ _ ev w' fun i W2 M2 H2 e2 w2 => ?_⟩⟩
    obtain ⟨b, us, eb, h3, r3⟩ := (r.evoO e2).tup w2
    cases eb
    exact walk_tup i w2 h3 r3
  | lst xs =>
    cases e2
    obtain ⟨a, vs, rfl, h1, r1⟩ := r.lst w'
    refine .inl ⟨a, rfl, .inl ⟨⟨vs, .inl (.inl h1)⟩, q _ _ _ ev w' fun i W2 M2 H2 e2 w2 => ?_⟩⟩
    obtain ⟨b, us, eb, h3, r3⟩ := (r.evoO e2).lst w2
    cases eb
    exact walk_lst i w2 (.inl (.inl h3)) r3
  | scr xs =>
    cases e2
    obtain ⟨a, vs, rfl, h1, r1⟩ := r.scr w'
    refine .inl ⟨a, rfl, .inl ⟨⟨vs, h1⟩, q _ _ _ ev w' fun i W2 M2 H2 e2 w2 => ?_⟩⟩
    obtain ⟨b, us, eb, h3, r3⟩ := (r.evoO e2).scr w2
    cases eb
    exact walk_lst i w2 h3 r3
  | str y =>
    cases e2
    obtain ⟨rfl, ok⟩ := r.str
    exact .inr ⟨y, rfl, q _ _ _ ev w' (walk_str W' ok).p0⟩
  | _ => cases e2
theorem iSeqF {l : Expr} {f : EP} (hl : PE X l (tF X.K f)) : PI X tg l (tIS X.K (iSeq f)) := PI.imp (pi_seqX hl) fun σ H R h => by
  obtain ⟨W, env, M, ds, M', w, re, e, q⟩ := h
  obtain ⟨d, e1, e2⟩ := iSeq_some e
  refine ⟨W, env, M, d, M', w, re, e1, fun v H' W' ev w' r => ?_⟩
  cases d with
  | tup xs =>
    cases e2
    obtain ⟨a, vs, rfl, h1, r1⟩ := (RepP.fz r).tup w'
    refine .inl ⟨a, rfl, .inr ⟨⟨vs, h1⟩, q _ _ _ ev w' fun i W2 M2 H2 e2 w2 => ?_⟩⟩
    obtain ⟨b, us, eb, h3, r3⟩ := (RepP.fz (r.evoG e2)).tup w2
    cases eb
    exact walk_tup i w2 h3 r3
  | lst xs =>
    cases e2
    obtain ⟨a, vs, rfl, h1, r1⟩ := (RepP.fz r).lst w'
    refine .inl ⟨a, rfl, .inl ⟨⟨vs, .inl (.inl h1)⟩, q _ _ _ ev w' fun i W2 M2 H2 e2 w2 => ?_⟩⟩
    obtain ⟨b, us, eb, h3, r3⟩ := (RepP.fz (r.evoG e2)).lst w2
    cases eb
    exact walk_lst i w2 (.inl (.inl h3)) r3
  | scr xs =>
    cases e2
    obtain ⟨a, vs, rfl, h1, r1⟩ := (RepP.fz r).scr w'
    refine .inl ⟨a, rfl, .inl ⟨⟨vs, h1⟩, q _ _ _ ev w' fun i W2 M2 H2 e2 w2 => ?_⟩⟩
    obtain ⟨b, us, eb, h3, r3⟩ := (RepP.fz (r.evoG e2)).scr w2
    cases eb
    exact walk_lst i w2 h3 r3
  | str y =>
    cases e2
    obtain ⟨rfl, ok⟩ := (RepP.fz r).str
    exact .inr ⟨y, rfl, q _ _ _ ev w' (walk_str W' ok)⟩
  | _ => cases e2

/-! range -/
def rints (a : Int) (n : Nat) : List D := (List.range n).map fun i : Nat => .int (a + (i : Int))
theorem ints_len (a : Int) (n : Nat) : (rints a n).length = n := by simp [rints]
theorem ints_get {a : Int} {n i : Nat} {d : D} (h : (rints a n)[i]? = some d) : i < n ∧ d = .int (a + (i : Int)) := by
  unfold rints at h
  rw [List.getElem?_map] at h
  by_cases hi : i < n
  · rw [List.getElem?_range hi] at h
    cases h
    exact ⟨hi, rfl⟩
  · rw [List.getElem?_eq_none (by simpa using hi)] at h
    cases h
theorem walk_rng {K : PySem.W.Frag} (W₀ : Wd) (a : Int) (n : Nat) : IterOkS K W₀ (Itr a n) (rints a n) := fun i W M H _ w => by
  refine ⟨fun hl => ?_, fun d hd => ?_⟩
  · rw [ints_len] at hl
    exact Nat.le_of_eq hl
  · obtain ⟨h1, rfl⟩ := ints_get hd
    refine ⟨h1, fun x H' y => ?_⟩
    obtain ⟨rfl, rfl⟩ := y
    exact ⟨W, Evo.refl W, w, .int _⟩
theorem IterOkS.p {K : PySem.W.Frag} {W₀ : Wd} {J : It} {ds : List D} (h : IterOkS K W₀ J ds) : IterOk K W₀ J ds := fun i W M H e w => h i W M H e.gg w
def rng62 (i : Int) : Bool := decide (-(2 ^ 62) ≤ i ∧ i < 2 ^ 62)
def iRng (fs : EL) : EI := fun env M => match fs env M with
  | some ([.int j], M1) => if rng62 j then some (rints 0 j.toNat, M1) else none
  | some ([.int i, .int j], M1) => if rng62 i && rng62 j then some (rints i (j - i).toNat, M1) else none
  | _ => none
theorem rng62_of {i : Int} (h : rng62 i = true) : -(2 ^ 62) ≤ i ∧ i < 2 ^ 62 := of_decide_eq_true h
theorem iRng1 {a : Expr} {f : EP} {p pos : Pos} (hg : Gl X "range") (hm : X.mg "range" = none) (hp : plainE a = true) (ha : PE X a (tP X.K f)) : PI X tg (.Call (.Name "range" p) [a] [] pos) (tIS X.K (iRng (eCons f eNil))) :=
  PI.imp (pi_range1 hg hm (pConsP ha pNilP (star_cons hp)) (by rw [star_cons hp]; rfl)) fun σ H R h => by
    obtain ⟨W, env, M, ds, M', w, re, e, q⟩ := h
    unfold iRng at e
    split at e
    · rename_i j M1 hf
      split at e
      · rename_i hj
        cases e
        obtain ⟨h1, h2⟩ := rng62_of hj
        refine ⟨W, env, M, [.int j], _, w, re, hf, fun vs H' W' ev w' rs => ?_⟩
        obtain ⟨v, rfl, r⟩ := RepP.one rs
        exact ⟨j, by rw [r.int], h1, h2, q _ _ _ ev w' (walk_rng _ _ _)⟩
      · cases e
    · rename_i i j M1 hf
      obtain ⟨x, M2, xs, a1, a2, a3⟩ := eCons_some hf
      cases a2
      exact absurd (congrArg List.length a3) (by simp)
    · cases e
theorem iRng2 {a b : Expr} {f g : EP} {p pos : Pos} (hg : Gl X "range") (hm : X.mg "range" = none) (hp : plainE a = true) (hp2 : plainE b = true) (ha : PE X a (tP X.K f)) (hb : PE X b (tP X.K g)) : PI X tg (.Call (.Name "range" p) [a, b] [] pos) (tIS X.K (iRng (eCons f (eCons g eNil)))) :=
  PI.imp (pi_range2 hg hm (pConsP ha (pConsP hb pNilP (star_cons hp2)) (star_cons hp)) (by rw [star_cons hp, star_cons hp2]; rfl) (by rw [star_cons hp2]; rfl)) fun σ H R h => by
    obtain ⟨W, env, M, ds, M', w, re, e, q⟩ := h
    unfold iRng at e
    split at e
    · rename_i j M1 hf
      obtain ⟨x, M2, xs, a1, a2, a3⟩ := eCons_some hf
      obtain ⟨y, M3, ys, b1, b2, rfl⟩ := eCons_some a2
      exact absurd (congrArg List.length a3) (by simp)
    · rename_i i j M1 hf
      split at e
      · rename_i hj
        rw [Bool.and_eq_true] at hj
        cases e
        obtain ⟨h1, h2⟩ := rng62_of hj.1
        obtain ⟨h3, h4⟩ := rng62_of hj.2
        refine ⟨W, env, M, [.int i, .int j], _, w, re, hf, fun vs H' W' ev w' rs => ?_⟩
        obtain ⟨v, u, rfl, r, r'⟩ := RepPs.two rs
        exact ⟨i, j, by rw [r.int, r'.int], ⟨h1, h2, h3, h4⟩, q _ _ _ ev w' (walk_rng _ _ _)⟩
      · cases e
    · cases e
theorem tI_of_tIS {K : PySem.W.Frag} {f : EI} {σ : L2.St} {H : Hp} {R : It → Hp → Prop} (h : tI K f σ H R) : tIS K f σ H R := by
  obtain ⟨W, env, M, ds, M', w, re, e, q⟩ := h
  exact ⟨W, env, M, ds, M', w, re, e, fun J H' W' ev w' r => q J H' W' ev w' r.p⟩
theorem piP {l : Expr} {f : EI} (h : PI X tg l (tIS X.K f)) : PI X tg l (tI X.K f) := PI.imp h fun _ _ _ => tI_of_tIS
end
end R

set_option Elab.async false
set_option linter.all false
set_option maxRecDepth 100000
set_option maxHeartbeats 2000000
/-! R6: list comprehensions -/
namespace R
open PySem PySem.Spec PyProof.Rows L2

def wipeE (env : Env) (vs : List Nat) : Env := vs.foldr (fun v e => e.set v .no) env
theorem wipe_get (σ : L2.St) : ∀ (vs : List Nat) (j : Nat), (wipe σ vs)[j]? = if j ∈ vs ∧ j < σ.length then some none else σ[j]?
  | [], j => by simp [wipe]
  | v :: vs, j => by
    have ih := wipe_get σ vs j
    have hl := wipe_length σ vs
    unfold wipe
    by_cases z : v = j
    · subst z
      by_cases hv : v < σ.length
      · rw [List.getElem?_set_self (by omega), if_pos ⟨List.mem_cons_self, hv⟩]
      · rw [if_neg fun h => hv h.2, List.getElem?_eq_none (by rw [List.length_set]; omega), List.getElem?_eq_none (by omega)]
    · rw [List.getElem?_set_ne z, ih]
      have e : j ∈ v :: vs ↔ j ∈ vs := by
        rw [List.mem_cons]
        exact ⟨fun h => h.elim (fun h => absurd h.symm z) id, .inr⟩
      simp only [e]
theorem wipeE_length (env : Env) : ∀ vs : List Nat, (wipeE env vs).length = env.length
  | [] => rfl
  | v :: vs => by
    show ((wipeE env vs).set v .no).length = _
    rw [List.length_set, wipeE_length env vs]
theorem Re.wipe {K : PySem.W.Frag} {W : Wd} {env : Env} {σ : L2.St} (re : Re K W env σ) : ∀ vs : List Nat, Re K W (wipeE env vs) (L2.wipe σ vs)
  | [] => re
  | v :: vs => by
    have r := Re.wipe re vs
    show Re K W ((wipeE env vs).set v .no) ((L2.wipe σ vs).set v none)
    refine ⟨by rw [List.length_set, List.length_set]; exact r.len, fun j s hj => ?_, fun j k d1 d2 a h1 h2 h3 h4 => ?_⟩
    · by_cases z : v = j
      · subst z
        have hv : v < ((wipeE env vs).set v .no).length := (List.getElem?_eq_some_iff.mp hj).1
        rw [List.length_set] at hv
        rw [List.getElem?_set_self hv] at hj
        cases hj
        rw [List.getElem?_set_self (by rw [r.len]; exact hv)]
        exact .no
      · rw [List.getElem?_set_ne z] at hj ⊢
        exact r.at_ j s hj
    · have key : ∀ {j : Nat} {d : D}, ((wipeE env vs).set v .no)[j]? = some (.own d) → v ≠ j := fun {j d} h z => by
        subst z
        have hv : v < ((wipeE env vs).set v .no).length := (List.getElem?_eq_some_iff.mp h).1
        rw [List.length_set] at hv
        rw [List.getElem?_set_self hv] at h
        cases h
      have n1 := key h1
      have n2 := key h2
      rw [List.getElem?_set_ne n1] at h1 h3
      rw [List.getElem?_set_ne n2] at h2 h4
      exact r.inj j k d1 d2 a h1 h2 h3 h4

/-- an object beside the world is guarded | let go again -/
theorem Rw.addB {K : PySem.W.Frag} {W : Wd} {M : List MO} {H : Hp} (w : Rw K W M H) {a : Addr} {o : HO} (h : H a = some o) (g : W.G a = none) (oo : W.O a = none) (m : a ∉ W.al) : Rw K { W with B := upd W.B a o } M H := by
  refine ⟨w.g, fun c u q => ?_, w.o, fun c q => ?_, fun c q => ?_, fun c hc => ?_, w.nd, w.ml, w.mo⟩
  · have q' : upd W.B a o c = some u := q
    by_cases z : c = a
    · subst z
      rw [upd_same] at q'
      cases q'
      exact h
    · rw [upd_ne z] at q'
      exact w.b _ _ q'
  · have z : c ≠ a := fun z => q (by rw [z]; exact g)
    refine ⟨?_, (w.gb c q).2⟩
    show upd W.B a o c = none
    rw [upd_ne z]
    exact (w.gb c q).1
  · by_cases z : c = a
    · rw [z]
      exact oo
    · have q' : upd W.B a o c ≠ none := q
      rw [upd_ne z] at q'
      exact w.bo c q'
  · have z : c ≠ a := fun z => m (z ▸ hc)
    refine ⟨(w.ag c hc).1, ?_, (w.ag c hc).2.2⟩
    show upd W.B a o c = none
    rw [upd_ne z]
    exact (w.ag c hc).2.1
theorem Rw.delB {K : PySem.W.Frag} {W : Wd} {M : List MO} {H : Hp} (w : Rw K W M H) {a : Addr} {o o' : HO} {B : Hp} (hB : W.B = upd B a o) (h0 : B a = none) :
    Rw K { W with B := B } M (upd H a o') ∧ W.G a = none ∧ W.O a = none ∧ a ∉ W.al ∧ H a = some o := by
  have hb : W.B a = some o := by rw [hB, upd_same]
  have hne : W.B a ≠ none := by rw [hb]; exact fun z => nomatch z
  have hg : W.G a = none := by
    cases q : W.G a with
    | none => rfl
    | some u =>
      have z := (w.gb a (by rw [q]; exact fun z => nomatch z)).1
      exact absurd z hne
  have ho : W.O a = none := w.bo a hne
  have hm : a ∉ W.al := fun hm => hne (w.ag a hm).2.1
  have sub : ∀ c, c ≠ a → B c = W.B c := fun c z => by rw [hB, upd_ne z]
  have keep : ∀ {F : Hp}, Le F H → F a = none → Le F (upd H a o') := fun {F} l n c u q => by
    rw [upd_ne fun z => by rw [z, n] at q; cases q]
    exact l c u q
  refine ⟨⟨keep w.g hg, fun c u q => ?_, keep w.o ho, fun c q => ?_, fun c q => ?_, fun c hc => ?_, w.nd, w.ml, fun n c m h1 h2 => ?_⟩, hg, ho, hm, w.b _ _ hb⟩
  · have q' : B c = some u := q
    have z : c ≠ a := fun z => by
      rw [z, h0] at q'
      cases q'
    rw [upd_ne z]
    exact w.b c u (by rw [← sub c z]; exact q')
  · have z : c ≠ a := fun z => q (by rw [z]; exact hg)
    exact ⟨(sub c z).trans (w.gb c q).1, (w.gb c q).2⟩
  · have z : c ≠ a := fun z => q (by rw [z]; exact h0)
    exact w.bo c (by rw [← sub c z]; exact q)
  · have z : c ≠ a := fun z => hm (z ▸ hc)
    exact ⟨(w.ag c hc).1, (sub c z).trans (w.ag c hc).2.1, (w.ag c hc).2.2⟩
  · have z : c ≠ a := fun z => hm (z ▸ List.mem_of_getElem? h1)
    exact (w.mo n c m h1 h2).mono (Le.refl _) (Pre.refl _) (upd_ne z)

/-- what a comprehension makes of its items -/
def compL (env : Env) (tg : Tg) (cond : EB) (elt : EP) : List D → List MO → Option (List D × List MO)
  | [], M => some ([], M)
  | d :: ds, M => match tg.bind d env with
    | some e1 => match cond e1 M with
      | some (true, M1) => match elt e1 M1 with
        | some (y, M2) => match compL env tg cond elt ds M2 with
          | some (ys, M3) => some (y :: ys, M3)
          | none => none
        | none => none
      | some (false, M1) => compL env tg cond elt ds M1
      | none => none
    | none => none
def eComp (vs : List Nat) (it : EI) (tg : Tg) (cond : EB) (elt : EP) : EE := fun env M => match it env M with
  | some (ds, M1) => match compL (wipeE env vs) tg cond elt ds M1 with
    | some (ys, M2) => if ys.length ≤ LIM then some ((.lst ys, true), M2) else none
    | none => none
  | none => none
def eYes : EB := fun _ M => some (true, M)
theorem eComp_some {vs : List Nat} {it : EI} {tg : Tg} {cond : EB} {elt : EP} {env : Env} {M M' : List MO} {r : D × Bool} (e : eComp vs it tg cond elt env M = some (r, M')) :
    ∃ ds M1 ys, it env M = some (ds, M1) ∧ compL (wipeE env vs) tg cond elt ds M1 = some (ys, M') ∧ ys.length ≤ LIM ∧ r = (.lst ys, true) := by
  unfold eComp at e
  split at e
  · rename_i ds M1 h1
    split at e
    · rename_i ys M2 h2
      split at e
      · rename_i hl
        cases e
        exact ⟨ds, M1, ys, h1, h2, hl, rfl⟩
      · cases e
    · cases e
  · cases e
theorem tLc_of {K : PySem.W.Frag} {vs : List Nat} {it : EI} {tg : Tg} {cond : EB} {elt : EP} {σ : L2.St} {H : Hp} {Q : VK} (hsub : ∀ j ∈ tg.slots, j ∈ vs) (h : tE K (eComp vs it tg cond elt) σ H Q) :
    tLc (tI K it) (tG K tg) (tT K cond) (tF K elt) vs σ H Q := by
  obtain ⟨W, env, M, r, M', w, re, e, q⟩ := h
  obtain ⟨ds, M1, ys, e1, e2, hlen, rfl⟩ := eComp_some e
  refine ⟨W, env, M, ds, M1, w, re, e1, fun J H1 W1 ev1 w1 itok La hD => ?_⟩
  have re1 := (re.evo ev1).wipe vs
  obtain ⟨d1, d2, d3, d4⟩ := w1.fresh hD
  -- the invariant
  refine ⟨fun i m H => ∃ W2 M2 acc accD rest, m = ds.length - i ∧ i ≤ ds.length ∧ Evo W1 W2 ∧ Rw K W2 M2 H ∧ H La = some (.lst acc) ∧ RepsW K W2 acc accD ∧ W2.G La = none ∧ W2.B La = none ∧ W2.O La = none ∧ La ∉ W2.al ∧
    compL (wipeE env vs) tg cond elt (ds.drop i) M2 = some (rest, M') ∧ accD ++ rest = ys,
    ⟨ds.length, W1, M1, [], [], ys, rfl, Nat.zero_le _, Evo.refl _, w1.new hD _, upd_same, .nil, d1, d2, d3, d4, e2, rfl⟩, ?_⟩
  rintro i m H2 ⟨W2, M2, acc, accD, rest, rfl, hi, ev2, w2, hDacc, rac, g2, b2, o2, m2, hc, htot⟩
  have wb := w2.addB hDacc g2 o2 m2
  obtain ⟨stop, go⟩ := itok i { W2 with B := upd W2.B La (.lst acc) } M2 H2 ⟨ev2.g, ev2.o, ev2.al⟩ wb
  by_cases hlt : i < ds.length
  · obtain ⟨hgo, hy⟩ := go ds[i] (List.getElem?_eq_getElem hlt)
    refine .inr ⟨hgo, fun H => ∃ W2 M2 acc accD rest, i + 1 ≤ ds.length ∧ Evo W1 W2 ∧ Rw K W2 M2 H ∧ H La = some (.lst acc) ∧ RepsW K W2 acc accD ∧ W2.G La = none ∧ W2.B La = none ∧ W2.O La = none ∧ La ∉ W2.al ∧
      compL (wipeE env vs) tg cond elt (ds.drop (i + 1)) M2 = some (rest, M') ∧ accD ++ rest = ys, ?_, fun x H' hyl => ?_⟩
    · rintro H3 ⟨W3, M3, acc3, accD3, rest3, a1, a2⟩
      exact ⟨ds.length - (i + 1), by omega, W3, M3, acc3, accD3, rest3, rfl, a1, a2⟩
    · obtain ⟨W3, ev3, w3, r3⟩ := hy x H' hyl
      rw [List.drop_eq_getElem_cons hlt] at hc
      unfold compL at hc
      split at hc
      · rename_i env1 hb
        have re3 : Re K W3 (wipeE env vs) (wipe σ vs) := by
          have z : EvoO W1 W3 := ⟨ev2.g.trans ev3.g, ev3.o.trans ev2.o, ev2.al.trans ev3.al⟩
          refine ⟨re1.len, fun j s hj => ?_, re1.inj⟩
          have y := re1.at_ j s hj
          generalize (L2.wipe σ vs)[j]? = oo at y ⊢
          cases y with
          | no => exact .no
          | fz y => exact .fz (Rep.mono z.g z.al y)
          | own y yr => exact .own (by rw [z.o]; exact y) (yr.mono z.g z.al)
        refine ⟨W3, wipeE env vs, M2, ds[i], env1, w3, re3, r3, hb, fun σ2 re4 hf hl => ⟨?_, ?_⟩⟩
        · -- only the target's slots have changed
          apply List.ext_getElem?
          intro j
          rw [wipe_get, wipe_get, hl, wipe_length]
          by_cases hj : j ∈ vs ∧ j < σ.length
          · rw [if_pos hj, if_pos hj]
          · rw [if_neg hj, if_neg hj]
            by_cases hjv : j ∈ vs
            · have hge : σ.length ≤ j := by
                rcases Nat.lt_or_ge j σ.length with z | z
                · exact absurd ⟨hjv, z⟩ hj
                · exact z
              rw [List.getElem?_eq_none (by rw [hl, wipe_length]; exact hge), List.getElem?_eq_none hge]
            · rw [hf j fun z => hjv (hsub j z), wipe_get, if_neg fun z => hjv z.1]
        · -- a turn's end
          have fin : ∀ {W4 : Wd} {M4 : List MO} {H4 : Hp} {acc' : List V} {accD' rest' : List D}, Evo W3 W4 → Rw K W4 M4 H4 → RepsW K W4 acc' accD' → compL (wipeE env vs) tg cond elt (ds.drop (i + 1)) M4 = some (rest', M') → accD' ++ rest' = ys →
              ∃ W2 M2 acc accD rest, i + 1 ≤ ds.length ∧ Evo W1 W2 ∧ Rw K W2 M2 (upd H4 La (.lst acc')) ∧ (upd H4 La (.lst acc')) La = some (.lst acc) ∧ RepsW K W2 acc accD ∧ W2.G La = none ∧ W2.B La = none ∧ W2.O La = none ∧ La ∉ W2.al ∧
                compL (wipeE env vs) tg cond elt (ds.drop (i + 1)) M2 = some (rest, M') ∧ accD ++ rest = ys := fun {W4 M4 H4 acc' accD' rest'} ev4 w4 rr c4 t4 => by
            have hB : W4.B = upd W2.B La (.lst acc) := ev4.b.trans ev3.b
            obtain ⟨wd, x1, x2, x3, x4⟩ := w4.delB (o' := .lst acc') hB b2
            have ev : Evo W1 { W4 with B := W2.B } := ⟨(ev2.g.trans ev3.g).trans ev4.g, ev2.b, (ev4.o.trans ev3.o).trans ev2.o, (ev2.al.trans ev3.al).trans ev4.al⟩
            exact ⟨{ W4 with B := W2.B }, M4, acc', accD', rest', hlt, ev, wd, upd_same, rr, x1, b2, x2, x3, c4, t4⟩
          split at hc
          · rename_i M3 hcond
            refine ⟨W3, env1, M2, true, M3, w3, re4, hcond, fun H4 W4 ev4 w4 => ?_⟩
            refine iteT ?_
            split at hc
            · rename_i y M4 helt
              split at hc
              · rename_i zs M5 hrest
                cases hc
                refine ⟨W4, env1, M3, y, M4, w4, re4.evo ev4, helt, fun v H5 W5 ev5 w5 r5 => ?_⟩
                have hB : W5.B = upd W2.B La (.lst acc) := (ev5.b.trans ev4.b).trans ev3.b
                have hD5 : H5 La = some (.lst acc) := w5.b _ _ (by rw [hB, upd_same])
                refine ⟨acc, hD5, ?_, fin (ev4.trans ev5) w5 (((rac.mono ev3.g ev3.al).mono ev4.g ev4.al).mono ev5.g ev5.al |>.snoc r5) hrest (by rw [List.append_assoc]; exact htot)⟩
                have hla := rac.length
                have hly := congrArg List.length htot
                rw [List.length_append, List.length_cons] at hly
                have hlim : LIM = sizeLine := rfl
                omega
              · cases hc
            · cases hc
          · rename_i M3 hcond
            refine ⟨W3, env1, M2, false, M3, w3, re4, hcond, fun H4 W4 ev4 w4 => ?_⟩
            refine iteF ?_
            have hB : W4.B = upd W2.B La (.lst acc) := ev4.b.trans ev3.b
            have hD4 : H4 La = some (.lst acc) := w4.b _ _ (by rw [hB, upd_same])
            have hu : upd H4 La (.lst acc) = H4 := by
              funext c
              by_cases z : c = La
              · rw [z, upd_same, hD4]
              · rw [upd_ne z]
            have z := fin ev4 w4 ((rac.mono ev3.g ev3.al).mono ev4.g ev4.al) hc htot
            rw [hu] at z
            exact z
          · cases hc
      · cases hc
  · have e3 : i = ds.length := by omega
    subst e3
    rw [List.drop_length] at hc
    cases hc
    rw [List.append_nil] at htot
    subst htot
    exact .inl ⟨stop rfl, q _ _ _ (ev1.trans ev2) w2 (.new hDacc (.lst rac) g2 b2 o2 m2)⟩
section
variable {X : Cx}
theorem ptsNil : PTs X [] (tT X.K eYes) := ⟨fun pins s σ H Q I h => pts_nil.run pins s σ H Q I (by
  obtain ⟨W, env, M, b, M', w, re, e, q⟩ := h
  cases e
  exact q _ _ (Evo.refl W) w)⟩
theorem pComp {elt tg iter : Expr} {ifs : List Expr} {scope : Scope} {own : List (Str × Nat)} {pos : Pos} {it : EI} {t : Tg} {cond : EB} {f : EP} (hc : X.calm = true) (hN : X.N.Nodup) (hi : PI X tg iter (tI X.K it)) (ok : BlkOk X.N X.env.scope scope own)
    (hg : ∀ (s : Shared) (H : Hp) (C : Addr) (cl : List (Str × Addr)) (fp : List Addr), PG (X.blk s H scope (compEnvC scope cl C X.env) fp) tg (tG X.K t))
    (ht : ∀ (s : Shared) (H : Hp) (C : Addr) (cl : List (Str × Addr)) (fp : List Addr), PTs (X.blk s H scope (compEnvC scope cl C X.env) fp) ifs (tT X.K cond))
    (he : ∀ (s : Shared) (H : Hp) (C : Addr) (cl : List (Str × Addr)) (fp : List Addr), PE (X.blk s H scope (compEnvC scope cl C X.env) fp) elt (tF X.K f))
    (hs : ∀ x, foldedSetIterable iter X.env x = pure x) (hsub : ∀ j ∈ t.slots, j ∈ own.map (·.2)) :
    PE X (.ListComp elt [⟨tg, iter, ifs, 0⟩] scope pos) (tE X.K (eComp (own.map (·.2)) it t cond f)) := PE.imp (pe_lc hc hN hi ok hg ht he hs) fun _ _ _ h => tLc_of hsub h
end
end R

set_option Elab.async false
set_option linter.all false
set_option maxRecDepth 100000
set_option maxHeartbeats 2000000
/-! R7: statements -/
namespace R
open PySem PySem.Spec PyProof.Rows L2

inductive Fl where
  | nx | ct | bk | rt (r : D × Bool)
abbrev ES := Env → List MO → Option (Fl × Env × List MO)
/-- what is wanted behind an end -/
def EndOk (K : PySem.W.Frag) (Dd : Ends) (fl : Fl) (env : Env) (W : Wd) (σ : L2.St) (H : Hp) : Prop :=
  match fl with
  | .nx => Re K W env σ → Dd.nx σ H
  | .ct => Re K W env σ → Dd.ct σ H
  | .bk => Re K W env σ → Dd.bk σ H
  | .rt r => ∀ v, RepR K W H r v → Dd.rt v H
def tS (K : PySem.W.Frag) (f : ES) : TS := fun Dd σ H => ∃ W env M fl env' M', Rw K W M H ∧ Re K W env σ ∧ f env M = some (fl, env', M') ∧ ∀ σ' H' W', EvoS W W' → Rw K W' M' H' → EndOk K Dd fl env' W' σ' H'

/-! ### own lists -/
def delH (O : Hp) (a : Addr) : Hp := fun b => if b = a then none else O b
theorem delH_same {O : Hp} {a : Addr} : delH O a a = none := by
  unfold delH
  rw [if_pos rfl]
theorem delH_ne {O : Hp} {a b : Addr} (h : b ≠ a) : delH O a b = O b := by
  unfold delH
  rw [if_neg h]
theorem delH_le {O : Hp} {a : Addr} : Le (delH O a) O := fun c u q => by
  by_cases z : c = a
  · rw [z, delH_same] at q
    cases q
  · rw [delH_ne z] at q
    exact q
section
variable {K : PySem.W.Frag} {W : Wd} {M : List MO} {H : Hp}
/-- a new object becomes the frame's own -/
theorem Rw.own (w : Rw K W M H) {a : Addr} {o : HO} (h : H a = some o) (g : W.G a = none) (b : W.B a = none) (m : a ∉ W.al) : EvoS W { W with O := upd W.O a o } ∧ Rw K { W with O := upd W.O a o } M H := by
  refine ⟨⟨Le.refl _, rfl, Pre.refl _⟩, ⟨w.g, w.b, fun c u q => ?_, fun c q => ?_, fun c q => ?_, fun c hc => ?_, w.nd, w.ml, w.mo⟩⟩
  · have q' : upd W.O a o c = some u := q
    by_cases z : c = a
    · rw [z, upd_same] at q'
      cases q'
      rw [z]
      exact h
    · rw [upd_ne z] at q'
      exact w.o _ _ q'
  · have z : c ≠ a := fun z => q (by rw [z]; exact g)
    refine ⟨(w.gb c q).1, ?_⟩
    show upd W.O a o c = none
    rw [upd_ne z]
    exact (w.gb c q).2
  · have z : c ≠ a := fun z => q (by rw [z]; exact b)
    show upd W.O a o c = none
    rw [upd_ne z]
    exact w.bo c q
  · have z : c ≠ a := fun z => m (z ▸ hc)
    refine ⟨(w.ag c hc).1, (w.ag c hc).2.1, ?_⟩
    show upd W.O a o c = none
    rw [upd_ne z]
    exact (w.ag c hc).2.2
/-- the frame's own list is let go -/
theorem Rw.unown (w : Rw K W M H) (a : Addr) : EvoS W { W with O := delH W.O a } ∧ Rw K { W with O := delH W.O a } M H := by
  have n : ∀ c, W.O c = none → delH W.O a c = none := fun c q => by
    by_cases z : c = a
    · rw [z]
      exact delH_same
    · rw [delH_ne z]
      exact q
  exact ⟨⟨Le.refl _, rfl, Pre.refl _⟩, ⟨w.g, w.b, delH_le.trans w.o, fun c q => ⟨(w.gb c q).1, n c (w.gb c q).2⟩, fun c q => n c (w.bo c q), fun c hc => ⟨(w.ag c hc).1, (w.ag c hc).2.1, n c (w.ag c hc).2.2⟩, w.nd, w.ml, w.mo⟩⟩
theorem Rw.oo (w : Rw K W M H) {a : Addr} {o : HO} (h : W.O a = some o) : W.G a = none ∧ W.B a = none ∧ a ∉ W.al := by
  have hne : W.O a ≠ none := by
    rw [h]
    exact fun z => nomatch z
  refine ⟨?_, ?_, fun hm => hne (w.ag a hm).2.2⟩
  · cases q : W.G a with
    | none => rfl
    | some u => exact absurd (w.gb a (by rw [q]; exact fun z => nomatch z)).2 hne
  · cases q : W.B a with
    | none => rfl
    | some u => exact absurd (w.bo a (by rw [q]; exact fun z => nomatch z)) hne
/-- the frame's own list is changed -/
theorem Rw.write (w : Rw K W M H) {a : Addr} {o o' : HO} (h : W.O a = some o) : EvoS W { W with O := upd W.O a o' } ∧ Rw K { W with O := upd W.O a o' } M (upd H a o') := by
  obtain ⟨g, b, m⟩ := w.oo h
  have keep : ∀ {F : Hp}, Le F H → F a = none → Le F (upd H a o') := fun {F} l n c u q => by
    rw [upd_ne fun z => by rw [z, n] at q; cases q]
    exact l c u q
  refine ⟨⟨Le.refl _, rfl, Pre.refl _⟩, ⟨keep w.g g, keep w.b b, fun c u q => ?_, fun c q => ?_, fun c q => ?_, fun c hc => ?_, w.nd, w.ml, fun n c mm h1 h2 => ?_⟩⟩
  · have q' : upd W.O a o' c = some u := q
    by_cases z : c = a
    · rw [z] at q' ⊢
      rw [upd_same] at q' ⊢
      exact q'
    · rw [upd_ne z] at q' ⊢
      exact w.o _ _ q'
  · have z : c ≠ a := fun z => q (by rw [z]; exact g)
    refine ⟨(w.gb c q).1, ?_⟩
    show upd W.O a o' c = none
    rw [upd_ne z]
    exact (w.gb c q).2
  · have z : c ≠ a := fun z => q (by rw [z]; exact b)
    show upd W.O a o' c = none
    rw [upd_ne z]
    exact w.bo c q
  · have z : c ≠ a := fun z => m (z ▸ hc)
    refine ⟨(w.ag c hc).1, (w.ag c hc).2.1, ?_⟩
    show upd W.O a o' c = none
    rw [upd_ne z]
    exact (w.ag c hc).2.2
  · have z : c ≠ a := fun z => m (z ▸ List.mem_of_getElem? h1)
    exact (w.mo n c mm h1 h2).mono (Le.refl _) (Pre.refl _) (upd_ne z)
/-- slots, where an own object is changed or let go at a place that no other own slot has -/
theorem Re.off {env : Env} {σ : L2.St} {a : Addr} {O : Hp} {i : Nat} (re : Re K W env σ) (hO : ∀ c, c ≠ a → O c = W.O c) (hi : ∀ j d, env[j]? = some (.own d) → σ[j]? = some (some (.ref a)) → j = i) :
    ∀ (j : Nat) (s : Sl), j ≠ i → env[j]? = some s → SlOk K { W with O := O } s σ[j]? := fun j s hj hs => by
  have y := re.at_ j s hs
  generalize hx : σ[j]? = x at y ⊢
  cases y with
  | no => exact .no
  | fz y => exact .fz y
  | own y r =>
    rename_i b o d
    have hb : b ≠ a := fun z => hj (hi j _ hs (by rw [hx, z]))
    exact .own (by show O b = _; rw [hO b hb]; exact y) r
end

/-! ### a slot is frozen -/
def frz1 (env : Env) (i : Nat) : Env := match env[i]? with
  | some (.own d) => env.set i (.fz d)
  | _ => env
def frzs (env : Env) (is : List Nat) : Env := is.foldl frz1 env
def sPre (is : List Nat) (f : ES) : ES := fun env M => f (frzs env is) M
theorem Re.frz1 {K : PySem.W.Frag} {W : Wd} {M : List MO} {H : Hp} {env : Env} {σ : L2.St} (w : Rw K W M H) (re : Re K W env σ) (i : Nat) : ∃ W', EvoS W W' ∧ Rw K W' M H ∧ Re K W' (frz1 env i) σ := by
  unfold R.frz1
  split
  · rename_i d hd
    have y := re.at_ i _ hd
    have hlt : i < env.length := (List.getElem?_eq_some_iff.mp hd).1
    cases hx : σ[i]? with
    | none =>
      rw [hx] at y
      cases y
    | some x =>
      rw [hx] at y
      cases y with
      | own y r =>
        rename_i a o
        obtain ⟨g, b, m⟩ := w.oo y
        obtain ⟨e1, w1⟩ := w.unown a
        obtain ⟨e2, w2⟩ := w1.freeze (a := a) (o := o) (w.o _ _ y) g b delH_same m
        refine ⟨_, e1.trans e2.s, w2, ⟨by rw [List.length_set]; exact re.len, fun j s hj => ?_, fun j k d1 d2 a' h1 h2 h3 h4 => ?_⟩⟩
        · by_cases z : i = j
          · subst z
            rw [List.getElem?_set_self hlt] at hj
            cases hj
            rw [hx]
            exact .fz ((r.mono e2.g e2.al).rep upd_same)
          · rw [List.getElem?_set_ne z] at hj
            have q := re.off (a := a) (O := delH W.O a) (i := i) (fun c hc => delH_ne hc) (fun j d' h1 h2 => re.inj j i d' d a h1 hd h2 hx) j s (Ne.symm z) hj
            exact q.evo e2
        · have n : ∀ {j : Nat} {d' : D}, (env.set i (.fz d))[j]? = some (.own d') → i ≠ j := fun {j d'} h z => by
            subst z
            rw [List.getElem?_set_self hlt] at h
            cases h
          have n1 := n h1
          have n2 := n h2
          rw [List.getElem?_set_ne n1] at h1
          rw [List.getElem?_set_ne n2] at h2
          exact re.inj j k d1 d2 a' h1 h2 h3 h4
  · exact ⟨W, EvoS.refl W, w, re⟩
theorem Re.frzs {K : PySem.W.Frag} {M : List MO} {H : Hp} {σ : L2.St} : ∀ (is : List Nat) {W : Wd} {env : Env}, Rw K W M H → Re K W env σ → ∃ W', EvoS W W' ∧ Rw K W' M H ∧ Re K W' (R.frzs env is) σ
  | [], W, env, w, re => ⟨W, EvoS.refl W, w, re⟩
  | i :: is, W, env, w, re => by
    obtain ⟨W1, e1, w1, re1⟩ := Re.frz1 w re i
    obtain ⟨W2, e2, w2, re2⟩ := Re.frzs is w1 re1
    exact ⟨W2, e1.trans e2, w2, re2⟩
theorem EndOk.from {K : PySem.W.Frag} {Dd : Ends} {fl : Fl} {env : Env} {W : Wd} {σ : L2.St} {H : Hp} (h : EndOk K Dd fl env W σ H) : EndOk K Dd fl env W σ H := h
theorem tS_pre {K : PySem.W.Frag} {is : List Nat} {f : ES} {Dd : Ends} {σ : L2.St} {H : Hp} (h : tS K (sPre is f) Dd σ H) : tS K f Dd σ H := by
  obtain ⟨W, env, M, fl, env', M', w, re, e, q⟩ := h
  obtain ⟨W1, e1, w1, re1⟩ := Re.frzs is w re
  exact ⟨W1, _, M, fl, env', M', w1, re1, e, fun σ' H' W' e2 w2 => q σ' H' W' (e1.trans e2) w2⟩

/-! ### x = e -/
def putSl (env : Env) (i : Nat) (r : D × Bool) : Env := env.set i (if r.2 then .own r.1 else .fz r.1)
def sSet (i : Nat) (f : EE) : ES := fun env M => match f env M with
  | some (r, M') => if i < env.length then some (.nx, putSl env i r, M') else none
  | none => none
theorem Re.put {K : PySem.W.Frag} {W : Wd} {M : List MO} {H : Hp} {env : Env} {σ : L2.St} {i : Nat} {r : D × Bool} {v : V} (w : Rw K W M H) (re : Re K W env σ) (hi : i < env.length) (rr : RepR K W H r v) :
    ∃ W', EvoS W W' ∧ Rw K W' M H ∧ Re K W' (putSl env i r) (σ.set i (some v)) := by
  cases rr with
  | old h => exact ⟨W, EvoS.refl W, w, re.setFz hi h⟩
  | new h rr g b oo m =>
    rename_i a o d
    obtain ⟨e1, w1⟩ := w.own h g b m
    have hl := re.len
    have nob : ∀ (j : Nat) (d' : D), env[j]? = some (.own d') → σ[j]? = some (some (.ref a)) → False := fun j d' h1 h2 => by
      have y := re.at_ j _ h1
      rw [h2] at y
      cases y with
      | own y _ =>
        rw [oo] at y
        cases y
    refine ⟨_, e1, w1, ⟨by unfold putSl; rw [List.length_set, List.length_set]; exact hl, fun j s hj => ?_, fun j k d1 d2 a' h1 h2 h3 h4 => ?_⟩⟩
    · unfold putSl at hj
      by_cases z : i = j
      · subst z
        rw [List.getElem?_set_self hi] at hj
        cases hj
        rw [List.getElem?_set_self (by omega)]
        exact .own upd_same rr
      · rw [List.getElem?_set_ne z] at hj ⊢
        exact re.off (a := a) (O := upd W.O a o) (i := i) (fun c hc => upd_ne hc) (fun j d' h1 h2 => (nob j d' h1 h2).elim) j s (Ne.symm z) hj
    · unfold putSl at h1 h2
      by_cases z : i = j
      · subst z
        rw [List.getElem?_set_self (by omega)] at h3
        cases h3
        by_cases y : i = k
        · exact y
        · rw [List.getElem?_set_ne y] at h2 h4
          exact (nob k _ h2 h4).elim
      · rw [List.getElem?_set_ne z] at h1 h3
        by_cases y : i = k
        · subst y
          rw [List.getElem?_set_self (by omega)] at h4
          cases h4
          exact (nob j _ h1 h3).elim
        · rw [List.getElem?_set_ne y] at h2 h4
          exact re.inj j k d1 d2 a' h1 h2 h3 h4
theorem tAsg_of {K : PySem.W.Frag} {te : TE} {f : EE} {i : Nat} {Dd : Ends} {σ : L2.St} {H : Hp} (hte : ∀ σ H Q, tE K f σ H Q → te σ H Q) (h : tS K (sSet i f) Dd σ H) : tAsg te (gName i) Dd σ H := by
  obtain ⟨W, env, M, fl, env', M', w, re, e, q⟩ := h
  unfold sSet at e
  split at e
  · rename_i r M1 hf
    split at e
    · rename_i hi
      cases e
      refine hte _ _ _ ⟨W, env, M, r, _, w, re, hf, fun v H' W' e1 w1 rr => ?_⟩
      obtain ⟨W2, e2, w2, re2⟩ := Re.put w1 (re.evo e1) hi rr
      exact q _ _ W2 (e1.s.trans e2) w2 re2
    · cases e
  · cases e

/-! ### a, b = e; a, b = e1, e2 -/
def sTup (t : Tg) (f : EP) : ES := fun env M => match f env M with
  | some (d, M') => (t.bind d env).map fun e1 => (.nx, e1, M')
  | none => none
theorem tAsg_tup {K : PySem.W.Frag} {f : EP} {t : Tg} {Dd : Ends} {σ : L2.St} {H : Hp} (h : tS K (sTup t f) Dd σ H) : tAsg (tF K f) (tG K t) Dd σ H := by
  obtain ⟨W, env, M, fl, env', M', w, re, e, q⟩ := h
  unfold sTup at e
  split at e
  · rename_i d M1 hf
    cases hb : t.bind d env with
    | none =>
      rw [hb] at e
      cases e
    | some e1 =>
      rw [hb] at e
      cases e
      exact ⟨W, env, M, d, _, w, re, hf, fun v H' W' ev w1 rr => ⟨W', env, _, d, _, w1, re.evo ev, rr, hb, fun σ' re' _ _ => q _ _ W' ev.s w1 re'⟩⟩
  · cases e
def sPar (i j : Nat) (f g : EE) : ES := fun env M => match f env M with
  | some (r, M1) => match g env M1 with
    | some (t, M2) => if i < env.length ∧ j < env.length ∧ i ≠ j then some (.nx, putSl (putSl env i r) j t, M2) else none
    | none => none
  | none => none
theorem RepR.keep {K : PySem.W.Frag} {W W' : Wd} {M : List MO} {H : Hp} {v : V} {d : D} {a : Addr} {o : HO} (w : Rw K W' M H) (e : Evo W W') (h : W.O a = some o) (r : Ow K W.G W.al o d) : H a = some o ∧ Ow K W'.G W'.al o d := ⟨w.o _ _ (by rw [e.o]; exact h), r.mono e.g e.al⟩
theorem tPar_of {K : PySem.W.Frag} {ta tb : TE} {f g : EE} {i j : Nat} {Dd : Ends} {σ : L2.St} {H : Hp} (ha : ∀ σ H Q, tE K f σ H Q → ta σ H Q) (hb : ∀ σ H Q, tE K g σ H Q → tb σ H Q) (h : tS K (sPar i j f g) Dd σ H) : tPar i j (tCons ta (tCons tb tNil)) Dd σ H := by
  obtain ⟨W, env, M, fl, env', M', w, re, e, q⟩ := h
  unfold sPar at e
  split at e
  · rename_i r M1 hf
    split at e
    · rename_i t M2 hg
      split at e
      · rename_i hc
        cases e
        refine ha _ _ _ ⟨W, env, M, r, M1, w, re, hf, fun v H1 W1 e1 w1 rr => ?_⟩
        have re1 := re.evo e1
        -- the first value is put aside
        cases rr with
        | old h1 =>
          refine hb _ _ _ ⟨W1, env, M1, t, _, w1, re1, hg, fun u H2 W2 e2 w2 rt => ?_⟩
          refine ⟨v, u, rfl, ?_⟩
          have re2 := (re1.evo e2).setFz hc.1 (h1.evo e2)
          obtain ⟨W3, e3, w3, re3⟩ := Re.put w2 re2 (by rw [List.length_set]; exact hc.2.1) rt
          exact q _ _ W3 ((e1.s.trans e2.s).trans e3) w3 re3
        | new h1 rr g1 b1 oo1 m1 =>
          rename_i a o d
          obtain ⟨eo, wo⟩ := w1.own h1 g1 b1 m1
          have nob : ∀ (j : Nat) (d' : D), env[j]? = some (.own d') → σ[j]? = some (some (.ref a)) → False := fun j d' h1 h2 => by
            have y := re1.at_ j _ h1
            rw [h2] at y
            cases y with
            | own y _ =>
              rw [oo1] at y
              cases y
          have reo : Re K { W1 with O := upd W1.O a o } env σ := ⟨re1.len, fun j s hj => re1.off (a := a) (O := upd W1.O a o) (i := env.length + j + 1) (fun c hc => upd_ne hc) (fun j d' h1 h2 => (nob j d' h1 h2).elim) j s (by omega) hj, re1.inj⟩
          refine hb _ _ _ ⟨_, env, M1, t, _, wo, reo, hg, fun u H2 W2 e2 w2 rt => ?_⟩
          refine ⟨.ref a, u, rfl, ?_⟩
          have ha2 : W2.O a = some o := by
            rw [e2.o]
            exact upd_same
          have reo2 := reo.evo e2
          have re2 : Re K W2 (putSl env i (d, true)) (σ.set i (some (.ref a))) := by
            have hl := reo2.len
            refine ⟨by unfold putSl; rw [List.length_set, List.length_set]; exact hl, fun j s hj => ?_, fun j k d1 d2 a' h1 h2 h3 h4 => ?_⟩
            · unfold putSl at hj
              by_cases z : i = j
              · subst z
                rw [List.getElem?_set_self hc.1] at hj
                cases hj
                rw [List.getElem?_set_self (by omega)]
                exact .own ha2 (rr.mono e2.g e2.al)
              · rw [List.getElem?_set_ne z] at hj ⊢
                exact reo2.at_ j s hj
            · unfold putSl at h1 h2
              by_cases z : i = j
              · subst z
                rw [List.getElem?_set_self (by omega)] at h3
                cases h3
                by_cases y : i = k
                · exact y
                · rw [List.getElem?_set_ne y] at h2 h4
                  exact (nob k _ h2 h4).elim
              · rw [List.getElem?_set_ne z] at h1 h3
                by_cases y : i = k
                · subst y
                  rw [List.getElem?_set_self (by omega)] at h4
                  cases h4
                  exact (nob j _ h1 h3).elim
                · rw [List.getElem?_set_ne y] at h2 h4
                  exact reo2.inj j k d1 d2 a' h1 h2 h3 h4
          obtain ⟨W3, e3, w3, re3⟩ := Re.put w2 re2 (by unfold putSl; rw [List.length_set]; exact hc.2.1) rt
          exact q _ _ W3 (((e1.s.trans eo).trans e2.s).trans e3) w3 re3
      · cases e
    · cases e
  · cases e

/-! ### plain statements -/
def sNx : ES := fun env M => some (.nx, env, M)
def sCt : ES := fun env M => some (.ct, env, M)
def sBk : ES := fun env M => some (.bk, env, M)
def sNone : ES := fun _ _ => none
def sEx (f : EE) : ES := fun env M => match f env M with
  | some (_, M') => some (.nx, env, M')
  | none => none
def sRet (f : EE) : ES := fun env M => match f env M with
  | some (r, M') => some (.rt r, env, M')
  | none => none
def sRetN : ES := fun env M => some (.rt (.non, false), env, M)
/-- return x: an own list is handed on -/
def sRetV (i : Nat) : ES := fun env M => match env[i]? with
  | some (.fz d) => some (.rt (d, false), env, M)
  | some (.own d) => some (.rt (d, true), env, M)
  | _ => none
def sSeq (f g : ES) : ES := fun env M => match f env M with
  | some (.nx, e1, M1) => g e1 M1
  | r => r
def sIf (c : EB) (f g : ES) : ES := fun env M => match c env M with
  | some (true, M1) => f env M1
  | some (false, M1) => g env M1
  | none => none
section
variable {X : Cx} {pos : Pos} {e : Expr} {st : Stmt} {rest : List Stmt}
theorem sPass : PS X (.Pass pos) (tS X.K sNx) := PS.imp ps_pass fun Dd σ H h => by
  obtain ⟨W, env, M, fl, env', M', w, re, e, q⟩ := h
  cases e
  exact q _ _ W (EvoS.refl W) w re
theorem sCont : PS X (.Continue pos) (tS X.K sCt) := PS.imp ps_continue fun Dd σ H h => by
  obtain ⟨W, env, M, fl, env', M', w, re, e, q⟩ := h
  cases e
  exact q _ _ W (EvoS.refl W) w re
theorem sBreak : PS X (.Break pos) (tS X.K sBk) := PS.imp ps_break fun Dd σ H h => by
  obtain ⟨W, env, M, fl, env', M', w, re, e, q⟩ := h
  cases e
  exact q _ _ W (EvoS.refl W) w re
theorem sNever : PS X st (tS X.K sNone) := PS.imp ps_never fun Dd σ H h => by
  obtain ⟨W, env, M, fl, env', M', w, re, e, q⟩ := h
  cases e
theorem sExpr {f : EE} (he : PE X e (tE X.K f)) (hs : swapsWith e none pos.line X.env = pure false) : PS X (.Expr e pos) (tS X.K (sEx f)) := PS.imp (ps_expr he hs) fun Dd σ H h => by
  obtain ⟨W, env, M, fl, env', M', w, re, e, q⟩ := h
  unfold sEx at e
  split at e
  · rename_i r M1 hf
    cases e
    exact ⟨W, env, M, r, _, w, re, hf, fun v H' W' ev w1 rr => q _ _ W' ev.s w1 (re.evo ev)⟩
  · cases e
theorem sReturn {f : EE} (he : PE X e (tE X.K f)) : PS X (.Return (some e) pos) (tS X.K (sRet f)) := PS.imp (ps_ret he) fun Dd σ H h => by
  obtain ⟨W, env, M, fl, env', M', w, re, e, q⟩ := h
  unfold sRet at e
  split at e
  · rename_i r M1 hf
    cases e
    exact ⟨W, env, M, r, _, w, re, hf, fun v H' W' ev w1 rr => q σ H' W' ev.s w1 v rr⟩
  · cases e
theorem sReturnN : PS X (.Return none pos) (tS X.K sRetN) := PS.imp ps_retN fun Dd σ H h => by
  obtain ⟨W, env, M, fl, env', M', w, re, e, q⟩ := h
  cases e
  exact q σ H W (EvoS.refl W) w _ (.old .non)
theorem sReturnV {i : Nat} {x : Str} {p2 : Pos} (hN : X.N[i]? = some x) (hv : Vis X.env.scope x) (hd : (x == ("__debug__" : Str)) = false) (hcd : (x == ("__classdict__" : Str)) = false) : PS X (.Return (some (.Name x p2)) pos) (tS X.K (sRetV i)) := PS.imp (ps_ret (pe_var hN hv hd hcd)) fun Dd σ H h => by
  obtain ⟨W, env, M, fl, env', M', w, re, e, q⟩ := h
  unfold sRetV at e
  split at e
  · rename_i d hd'
    cases e
    have z := re.at_ i _ hd'
    cases hx : σ[i]? with
    | none =>
      rw [hx] at z
      cases z
    | some o =>
      rw [hx] at z
      cases z with
      | fz z => exact ⟨_, hx, q σ H W (EvoS.refl W) w _ (.old z)⟩
  · rename_i d hd'
    cases e
    have z := re.at_ i _ hd'
    cases hx : σ[i]? with
    | none =>
      rw [hx] at z
      cases z
    | some o =>
      rw [hx] at z
      cases z with
      | own z r =>
        rename_i a u
        obtain ⟨g, b, m⟩ := w.oo z
        obtain ⟨e1, w1⟩ := w.unown a
        exact ⟨_, hx, q σ H _ e1 w1 _ (.new (w.o _ _ z) r g b delH_same m)⟩
  · cases e
theorem ssNil : PSs X [] (tS X.K sNx) := PSs.imp pss_nil fun Dd σ H h => by
  obtain ⟨W, env, M, fl, env', M', w, re, e, q⟩ := h
  cases e
  exact q _ _ W (EvoS.refl W) w re
theorem ssOne {f : ES} (h : PS X st (tS X.K f)) : PSs X [st] (tS X.K f) := pss_one h
theorem ssCons {f g : ES} (h1 : PS X st (tS X.K f)) (h2 : PSs X rest (tS X.K g)) : PSs X (st :: rest) (tS X.K (sSeq f g)) := PSs.imp (pss_cons h1 h2) fun Dd σ H h => by
  obtain ⟨W, env, M, fl, env', M', w, re, e, q⟩ := h
  unfold sSeq at e
  split at e
  · rename_i e1 M1 hf
    refine ⟨W, env, M, .nx, e1, M1, w, re, hf, fun σ1 H1 W1 v1 w1 re1 => ?_⟩
    exact ⟨W1, e1, M1, fl, env', M', w1, re1, e, fun σ' H' W' v2 w2 => q σ' H' W' (v1.trans v2) w2⟩
  · rename_i hno
    refine ⟨W, env, M, fl, env', M', w, re, e, fun σ' H' W' v1 w1 => ?_⟩
    have z := q σ' H' W' v1 w1
    cases fl with
    | nx => exact absurd e (hno env' M')
    | ct => exact z
    | bk => exact z
    | rt r => exact z
theorem sIfS {c : Expr} {a b : List Stmt} {fc : EB} {f g : ES} (hc : PT X c (tT X.K fc)) (ha : PSs X a (tS X.K f)) (hb : PSs X b (tS X.K g)) : PS X (.If c a b pos) (tS X.K (sIf fc f g)) := PS.imp (ps_if hc ha hb) fun Dd σ H h => by
  obtain ⟨W, env, M, fl, env', M', w, re, e, q⟩ := h
  unfold sIf at e
  split at e
  · rename_i M1 hf
    refine ⟨W, env, M, true, M1, w, re, hf, fun H1 W1 v1 w1 => ?_⟩
    refine iteT ⟨W1, env, M1, fl, env', M', w1, re.evo v1, e, fun σ' H' W' v2 w2 => q σ' H' W' (v1.s.trans v2) w2⟩
  · rename_i M1 hf
    refine ⟨W, env, M, false, M1, w, re, hf, fun H1 W1 v1 w1 => ?_⟩
    refine iteF ⟨W1, env, M1, fl, env', M', w1, re.evo v1, e, fun σ' H' W' v2 w2 => q σ' H' W' (v1.s.trans v2) w2⟩
  · cases e
end

/-! ### for -/
/-- the loop over its items: .bk and the end go on with .nx -/
def forL (t : Tg) (body : ES) : List D → Env → List MO → Option (Fl × Env × List MO)
  | [], env, M => some (.nx, env, M)
  | d :: ds, env, M => match t.bind d env with
    | some e1 => match body e1 M with
      | some (.nx, e2, M2) => forL t body ds e2 M2
      | some (.ct, e2, M2) => forL t body ds e2 M2
      | some (.bk, e2, M2) => some (.nx, e2, M2)
      | some (.rt r, e2, M2) => some (.rt r, e2, M2)
      | none => none
    | none => none
def sFor (it : EI) (t : Tg) (body : ES) : ES := fun env M => match it env M with
  | some (ds, M1) => forL t body ds env M1
  | none => none
theorem tFor_of {K : PySem.W.Frag} {it : EI} {t : Tg} {body : ES} {Dd : Ends} {σ : L2.St} {H : Hp} (h : tS K (sFor it t body) Dd σ H) : tFor (tIS K it) (tG K t) (tS K body) Dd σ H := by
  obtain ⟨W, env, M, fl, env', M', w, re, e, q⟩ := h
  unfold sFor at e
  split at e
  · rename_i ds M1 hit
    refine ⟨W, env, M, ds, M1, w, re, hit, fun J H1 W1 v1 w1 itok => ?_⟩
    refine ⟨fun i m σ H => ∃ W2 env2 M2, m = ds.length - i ∧ i ≤ ds.length ∧ EvoS W1 W2 ∧ Rw K W2 M2 H ∧ Re K W2 env2 σ ∧ forL t body (ds.drop i) env2 M2 = some (fl, env', M'),
      ⟨ds.length, W1, env, M1, rfl, Nat.zero_le _, EvoS.refl _, w1, re.evo v1, e⟩, ?_⟩
    rintro i m σ2 H2 ⟨W2, env2, M2, rfl, hi, v2, w2, re2, hl⟩
    obtain ⟨stop, go⟩ := itok i W2 M2 H2 v2.gg w2
    by_cases hlt : i < ds.length
    · obtain ⟨hgo, hy⟩ := go ds[i] (List.getElem?_eq_getElem hlt)
      refine .inr ⟨hgo, fun σ H => ∃ W2 env2 M2, EvoS W1 W2 ∧ Rw K W2 M2 H ∧ Re K W2 env2 σ ∧ forL t body (ds.drop (i + 1)) env2 M2 = some (fl, env', M'), ?_, fun x H' hyl => ?_⟩
      · rintro σ3 H3 ⟨W3, env3, M3, a1, a2, a3, a4⟩
        exact ⟨ds.length - (i + 1), by omega, W3, env3, M3, rfl, hlt, a1, a2, a3, a4⟩
      · obtain ⟨W3, v3, w3, r3⟩ := hy x H' hyl
        rw [List.drop_eq_getElem_cons hlt] at hl
        unfold forL at hl
        split at hl
        · rename_i e1 hb
          refine ⟨W3, env2, M2, ds[i], e1, w3, re2.evo v3, r3, hb, fun σ4 re4 _ _ => ?_⟩
          have v13 : EvoS W1 W3 := v2.trans v3.s
          split at hl
          · rename_i e2 M4 hbody
            exact ⟨W3, e1, M2, .nx, e2, M4, w3, re4, hbody, fun σ5 H5 W5 v5 w5 re5 => ⟨W5, e2, M4, v13.trans v5, w5, re5, hl⟩⟩
          · rename_i e2 M4 hbody
            exact ⟨W3, e1, M2, .ct, e2, M4, w3, re4, hbody, fun σ5 H5 W5 v5 w5 re5 => ⟨W5, e2, M4, v13.trans v5, w5, re5, hl⟩⟩
          · rename_i e2 M4 hbody
            cases hl
            exact ⟨W3, e1, M2, .bk, _, _, w3, re4, hbody, fun σ5 H5 W5 v5 w5 re5 => q σ5 H5 W5 (v1.s.trans (v13.trans v5)) w5 re5⟩
          · rename_i r e2 M4 hbody
            cases hl
            exact ⟨W3, e1, M2, .rt _, _, _, w3, re4, hbody, fun σ5 H5 W5 v5 w5 v rv => q σ5 H5 W5 (v1.s.trans (v13.trans v5)) w5 v rv⟩
          · cases hl
        · cases hl
    · have e3 : i = ds.length := by omega
      subst e3
      rw [List.drop_length] at hl
      cases hl
      exact .inl ⟨stop rfl, q _ _ W2 (v1.s.trans v2) w2 re2⟩
  · cases e

/-! ### while -/
def WLIM : Nat := 5000
def whL (c : EB) (body : ES) : Nat → Env → List MO → Option (Fl × Env × List MO)
  | 0, _, _ => none
  | n + 1, env, M => match c env M with
    | some (true, M1) => match body env M1 with
      | some (.nx, e2, M2) => whL c body n e2 M2
      | some (.ct, e2, M2) => whL c body n e2 M2
      | some (.bk, e2, M2) => some (.nx, e2, M2)
      | some (.rt r, e2, M2) => some (.rt r, e2, M2)
      | none => none
    | some (false, M1) => some (.nx, env, M1)
    | none => none
def sWh (c : EB) (body : ES) : ES := fun env M => whL c body WLIM env M
theorem tWhile_of {K : PySem.W.Frag} {c : EB} {body : ES} {Dd : Ends} {σ : L2.St} {H : Hp} (h : tS K (sWh c body) Dd σ H) : tWhile (tT K c) (tS K body) Dd σ H := by
  obtain ⟨W, env, M, fl, env', M', w, re, e, q⟩ := h
  unfold sWh at e
  refine ⟨fun m σ H => ∃ W2 env2 M2, EvoS W W2 ∧ Rw K W2 M2 H ∧ Re K W2 env2 σ ∧ whL c body m env2 M2 = some (fl, env', M'), ⟨WLIM, W, env, M, EvoS.refl _, w, re, e⟩, ?_⟩
  rintro m σ2 H2 ⟨W2, env2, M2, v2, w2, re2, hl⟩
  cases m with
  | zero => cases hl
  | succ m =>
    unfold whL at hl
    split at hl
    · rename_i M3 hc
      refine ⟨W2, env2, M2, true, M3, w2, re2, hc, fun H3 W3 v3 w3 => ?_⟩
      refine iteT ⟨fun σ H => ∃ W2 env2 M2, EvoS W W2 ∧ Rw K W2 M2 H ∧ Re K W2 env2 σ ∧ whL c body m env2 M2 = some (fl, env', M'), fun σ' H' hh => ⟨m, Nat.lt_succ_self m, hh⟩, ?_⟩
      have v13 : EvoS W W3 := v2.trans v3.s
      split at hl
      · rename_i e2 M4 hbody
        exact ⟨W3, env2, M3, .nx, e2, M4, w3, re2.evo v3, hbody, fun σ5 H5 W5 v5 w5 re5 => ⟨W5, e2, M4, v13.trans v5, w5, re5, hl⟩⟩
      · rename_i e2 M4 hbody
        exact ⟨W3, env2, M3, .ct, e2, M4, w3, re2.evo v3, hbody, fun σ5 H5 W5 v5 w5 re5 => ⟨W5, e2, M4, v13.trans v5, w5, re5, hl⟩⟩
      · rename_i e2 M4 hbody
        cases hl
        exact ⟨W3, env2, M3, .bk, _, _, w3, re2.evo v3, hbody, fun σ5 H5 W5 v5 w5 re5 => q σ5 H5 W5 (v13.trans v5) w5 re5⟩
      · rename_i r e2 M4 hbody
        cases hl
        exact ⟨W3, env2, M3, .rt _, _, _, w3, re2.evo v3, hbody, fun σ5 H5 W5 v5 w5 v rv => q σ5 H5 W5 (v13.trans v5) w5 v rv⟩
      · cases hl
    · rename_i M3 hc
      cases hl
      refine ⟨W2, _, M2, false, _, w2, re2, hc, fun H3 W3 v3 w3 => ?_⟩
      exact iteF (q _ _ W3 (v2.trans v3.s) w3 (re2.evo v3))
    · cases hl
end R

set_option Elab.async false
set_option linter.all false
set_option maxRecDepth 100000
set_option maxHeartbeats 2000000
/-! R8: lists that change; calls -/
namespace R
open PySem PySem.Spec PyProof.Rows L2

/-! ### an own list at a slot is changed -/
theorem Re.write {K : PySem.W.Frag} {W : Wd} {M : List MO} {H : Hp} {env : Env} {σ : L2.St} {i : Nat} {d d' : D} {a : Addr} {o o' : HO} (w : Rw K W M H) (re : Re K W env σ) (hd : env[i]? = some (.own d)) (hx : σ[i]? = some (some (.ref a))) (ho : W.O a = some o) (r : Ow K W.G W.al o' d') :
    ∃ W', EvoS W W' ∧ Rw K W' M (upd H a o') ∧ Re K W' (env.set i (.own d')) σ := by
  have hlt : i < env.length := (List.getElem?_eq_some_iff.mp hd).1
  obtain ⟨e1, w1⟩ := w.write (o' := o') ho
  refine ⟨_, e1, w1, ⟨by rw [List.length_set]; exact re.len, fun j s hj => ?_, fun j k d1 d2 a' h1 h2 h3 h4 => ?_⟩⟩
  · by_cases z : i = j
    · subst z
      rw [List.getElem?_set_self hlt] at hj
      cases hj
      rw [hx]
      exact .own upd_same r
    · rw [List.getElem?_set_ne z] at hj
      exact re.off (a := a) (O := upd W.O a o') (i := i) (fun c hc => upd_ne hc) (fun j d' h1 h2 => re.inj j i d' d a h1 hd h2 hx) j s (Ne.symm z) hj
  · have n : ∀ {j : Nat} {e : D}, (env.set i (.own d'))[j]? = some (.own e) → ∃ e', env[j]? = some (.own e') := fun {j e} h => by
      by_cases z : i = j
      · subst z
        exact ⟨d, hd⟩
      · rw [List.getElem?_set_ne z] at h
        exact ⟨e, h⟩
    obtain ⟨e1, h1⟩ := n h1
    obtain ⟨e2, h2⟩ := n h2
    exact re.inj j k e1 e2 a' h1 h2 h3 h4
def sApp (i : Nat) (f : EP) : ES := fun env M => match env[i]? with
  | some (.own (.lst ds)) => match f env M with
    | some (d, M1) => if ds.length < LIM then some (.nx, env.set i (.own (.lst (ds ++ [d]))), M1) else none
    | none => none
  | _ => none
def sExt (i : Nat) (f : EP) : ES := fun env M => match env[i]? with
  | some (.own (.lst ds)) => match f env M with
    | some (.lst es, M1) => if ds.length + es.length ≤ LIM then some (.nx, env.set i (.own (.lst (ds ++ es))), M1) else none
    | some (.tup es, M1) => if ds.length + es.length ≤ LIM then some (.nx, env.set i (.own (.lst (ds ++ es))), M1) else none
    | _ => none
  | _ => none
/-- x = l.pop() -/
def sPop (j i : Nat) : ES := fun env M => match env[i]? with
  | some (.own (.lst ds)) => match ds.getLast? with
    | some d => if j < env.length ∧ i ≠ j then some (.nx, (env.set i (.own (.lst ds.dropLast))).set j (.fz d), M) else none
    | none => none
  | _ => none
theorem list_extend_tupW (l : Addr) (items : Array Value) (n : Nat) (b : Addr) (items2 : Array Value) (n2 : Nat) (dd : Option Addr) (sl : Array (Option Value)) (hs0 : ¬(!items.isEmpty && Builtin.List.listTooLong (items.size + items2.size)) = true) (hs1 : items.size ≤ sizeLine) (hs2 : items.size + items2.size ≤ sizeLine + 1) :
    Meets (Builtin.«list.extend» ⟨[.ref l, .ref b], []⟩) (fun _ R s => s.heap.get? l = some { cls := .type "list", dict := none, data := .seq items n, slots := #[] } ∧
      s.heap.get? b = some { cls := .type "tuple", dict := dd, data := .seq items2 n2, slots := sl } ∧ R (.ok (.ret Value.none)) { s with heap := s.heap.update l (Obj.mapSeq fun x => x ++ items2), toks := s.toks }) :=
  .of_wp fun prog w A R s h => by
    obtain ⟨hp, g, d, tk, os⟩ := s
    obtain ⟨hl, hb, h⟩ := h
    have f1 := AutoSeq1.idx_int
    have f2 := AutoSeq1.sub_tuple_tuple
    have f3 := AutoSeq1.sub_list_list
    have f4 := AutoSeq1.sub_tuple_list
    have f5 := AutoSeq1.sub_list_tuple
    have hz' : (items ++ items2).size ≤ sizeLine + 1 := by
      rw [Array.size_append]
      exact hs2
    wp_walk using (wpAny_updateSeq hl rfl (hz := hs1) (_hz' := hz')), AutoSeq1.wpAny_loadPart' hl, AutoSeq1.wpAny_loadPart' hb
    exact ⟨_, rfl, h⟩
def rExtT (K : PySem.W.Frag) : V → List V → Hp → VK → Prop := fun x vs H Q => ∃ l b xs zs, x = .ref l ∧ vs = [.ref b] ∧ H l = some (.lst xs) ∧ SqT K H b zs ∧ xs.length + zs.length ≤ sizeLine ∧ Q .non (upd H l (.lst (xs ++ zs)))
theorem mt_extT {X : Cx} : MtR X "list.extend" (rExtT X.K) := by
  intro pins s σ H x vs v us Q I rx rv h
  obtain ⟨l, b, xs, zs, rfl, rfl, hH, hB, hz, q⟩ := h
  cases rx
  obtain ⟨u, rfl, ru⟩ := rv.one
  cases ru
  obtain ⟨z, its, n, r, hl, e⟩ := I.lstM hH
  obtain ⟨its2, r2, ⟨⟨c2, dd, da, sl⟩, e2, hc2, n2, hd2⟩, hz2⟩ := I.tuple hB
  simp only at hc2 hd2
  subst hc2 hd2
  have hl2 := r2.length
  have hsz : its.toArray.size + its2.toArray.size ≤ sizeLine := by
    rw [List.size_toArray, List.size_toArray]
    omega
  have hlong : ¬ (!its.toArray.isEmpty && Builtin.List.listTooLong (its.toArray.size + its2.toArray.size)) = true := by
    rw [notLongL hsz, Bool.and_false]
    exact Bool.false_ne_true
  refine call_meets PySem.F.slot_list_extend ⟨_, e, rfl⟩ PySem.F.entry_list_extend (PySem.F.args_list_extend_2 _ _)
    (list_extend_tupW l its.toArray n b its2.toArray n2 dd sl hlong (by rw [List.size_toArray]; omega) (by omega)) ⟨e, e2, ?_⟩
  refine ⟨.non, _, I.lset (its' := its ++ its2) hH e (by simp) (r.append r2) ?_, rfl, q⟩
  rw [List.length_append]
  exact hz
section
variable {X : Cx} {x : Str} {e : Expr} {p2 apos cpos pos : Pos}
/-- a method of a list at a slot, one argument -/
theorem lm_call {name : Str} {id : String} {r : V → List V → Hp → VK → Prop} {f : EP} {i : Nat} (pa : PlainAttrs "list") (slot : Slot "list" name id) (hty : typeOf (.builtin id) = pure (.type "method_descriptor")) (hm : MtR X id r)
    (hN : X.N[i]? = some x) (hv : Vis X.env.scope x) (hd : (x == ("__debug__" : Str)) = false) (hcd : (x == ("__classdict__" : Str)) = false) (he : PE X e (tF X.K f)) (hp : plainE e = true) (hline : (apos.endLine == cpos.line) = true) (hat : attributeBase (.Name x p2) name X.env (eval (.Name x p2) X.env) = eval (.Name x p2) X.env) :
    PE X (.Call (.Attribute (.Name x p2) name apos) [e] [] cpos) (tBM X.K "list" r (tVar i) (tCons (tF X.K f) tNil)) := by
  refine pe_bm pa slot hty hm (pe_var hN hv hd hcd) (pa_cons he pa_nil (star_cons hp)) hat ?_ hline (star_cons hp) (by rfl)
  rw [star_cons hp]
  rfl
theorem sAppend {f : EP} {i : Nat} (hN : X.N[i]? = some x) (hv : Vis X.env.scope x) (hd : (x == ("__debug__" : Str)) = false) (hcd : (x == ("__classdict__" : Str)) = false) (he : PE X e (tF X.K f)) (hp : plainE e = true) (hline : (apos.endLine == cpos.line) = true) :
    PS X (.Expr (.Call (.Attribute (.Name x p2) "append" apos) [e] [] cpos) pos) (tS X.K (sApp i f)) := PS.imp (ps_expr (lm_call PySem.F.plainAttrs_list PySem.F.slot_list_append PySem.F.type_list_append mt_append hN hv hd hcd he hp hline rfl)) fun Dd σ H h => by
  obtain ⟨W, env, M, fl, env', M', w, re, e, q⟩ := h
  unfold sApp at e
  split at e
  · rename_i ds hds
    split at e
    · rename_i d M1 hf
      split at e
      · rename_i hl
        cases e
        have y := re.at_ i _ hds
        cases hx : σ[i]? with
        | none =>
          rw [hx] at y
          cases y
        | some x =>
          rw [hx] at y
          cases y with
          | own y r =>
            rename_i a o
            cases r with
            | lst r =>
              rename_i vs
              refine ⟨_, hx, .inl ⟨rfl, vs, .inl (.inl (w.o _ _ y))⟩, W, env, M, d, _, w, re, hf, fun v H2 W2 ev w2 rv => ?_⟩
              have ho : W2.O a = some (.lst vs) := by
                rw [ev.o]
                exact y
              have r2 := r.mono ev.g ev.al
              refine ⟨a, vs, v, rfl, rfl, w2.o _ _ ho, by rw [r2.length]; exact hl, ?_⟩
              obtain ⟨W3, e3, w3, re3⟩ := Re.write w2 (re.evo ev) hds hx ho (.lst (r2.snoc rv))
              exact q _ _ W3 (ev.s.trans e3) w3 re3
      · cases e
    · cases e
  · cases e
theorem sExtend {f : EP} {i : Nat} (hN : X.N[i]? = some x) (hv : Vis X.env.scope x) (hd : (x == ("__debug__" : Str)) = false) (hcd : (x == ("__classdict__" : Str)) = false) (he : PE X e (tF X.K f)) (hp : plainE e = true) (hline : (apos.endLine == cpos.line) = true) :
    PS X (.Expr (.Call (.Attribute (.Name x p2) "extend" apos) [e] [] cpos) pos) (tS X.K (sExt i f)) := PS.imp (ps_expr (lm_call PySem.F.plainAttrs_list PySem.F.slot_list_extend PySem.F.type_list_extend (MtR.or mt_extend mt_extT) hN hv hd hcd he hp hline rfl)) fun Dd σ H h => by
  obtain ⟨W, env, M, fl, env', M', w, re, e, q⟩ := h
  unfold sExt at e
  split at e
  · rename_i ds hds
    have y := re.at_ i _ hds
    cases hx : σ[i]? with
    | none =>
      rw [hx] at y
      cases y
    | some x =>
      rw [hx] at y
      cases y with
      | own y r =>
        rename_i a o
        cases r with
        | lst r =>
          rename_i vs
          have fin : ∀ {es : List D} {M1 : List MO} {W2 : Wd} {H2 : Hp} {us : List V}, Evo W W2 → Rw X.K W2 M1 H2 → RepsW X.K W2 us es → some (Fl.nx, env.set i (.own (.lst (ds ++ es))), M1) = some (fl, env', M') → Dd.nx σ (upd H2 a (.lst (vs ++ us))) := fun {es M1 W2 H2 us} ev w2 ru e => by
            cases e
            have ho : W2.O a = some (.lst vs) := by
              rw [ev.o]
              exact y
            obtain ⟨W3, e3, w3, re3⟩ := Re.write w2 (re.evo ev) hds hx ho (.lst ((r.mono ev.g ev.al).append ru))
            exact q _ _ W3 (ev.s.trans e3) w3 re3
          have hl1 := r.length
          split at e
          · rename_i es M1 hf
            split at e
            · rename_i hl
              refine ⟨_, hx, .inl ⟨rfl, vs, .inl (.inl (w.o _ _ y))⟩, W, env, M, .lst es, _, w, re, hf, fun v H2 W2 ev w2 rv => ?_⟩
              obtain ⟨b, us, rfl, hb, ru⟩ := (RepP.fz rv).lst w2
              have ho : H2 a = some (.lst vs) := w2.o _ _ (by rw [ev.o]; exact y)
              exact .inl ⟨a, b, vs, us, rfl, rfl, ho, hb, by rw [hl1, ru.length]; exact hl, fin ev w2 ru e⟩
            · cases e
          · rename_i es M1 hf
            split at e
            · rename_i hl
              refine ⟨_, hx, .inl ⟨rfl, vs, .inl (.inl (w.o _ _ y))⟩, W, env, M, .tup es, _, w, re, hf, fun v H2 W2 ev w2 rv => ?_⟩
              obtain ⟨b, us, rfl, hb, ru⟩ := (RepP.fz rv).tup w2
              have ho : H2 a = some (.lst vs) := w2.o _ _ (by rw [ev.o]; exact y)
              exact .inr ⟨a, b, vs, us, rfl, rfl, ho, hb, by rw [hl1, ru.length]; exact hl, fin ev w2 ru e⟩
            · cases e
          · cases e
  · cases e
theorem sPopS {y : Str} {p3 : Pos} {i j : Nat} (hnd : X.N.Nodup) (hj : X.N[j]? = some y) (hy : Loc X.env.scope y) (hfn : X.fn y = true ∨ X.env.scope.names.lookup y = some .local) (hN : X.N[i]? = some x) (hv : Vis X.env.scope x) (hd : (x == ("__debug__" : Str)) = false) (hcd : (x == ("__classdict__" : Str)) = false) (hline : (apos.endLine == cpos.line) = true) :
    PS X (.Assign [.Name y p3] (.Call (.Attribute (.Name x p2) "pop" apos) [] [] cpos) pos) (tS X.K (sPop j i)) := PS.imp (ps_set hnd hj hy (pe_bm0 PySem.F.plainAttrs_list PySem.F.slot_list_pop PySem.F.type_list_pop mt_pop (pe_var hN hv hd hcd) rfl hline) rfl hfn) fun Dd σ H h => by
  obtain ⟨W, env, M, fl, env', M', w, re, e, q⟩ := h
  unfold sPop at e
  split at e
  · rename_i ds hds
    split at e
    · rename_i d hdl
      split at e
      · rename_i hc
        cases e
        have y := re.at_ i _ hds
        cases hx : σ[i]? with
        | none =>
          rw [hx] at y
          cases y
        | some x =>
          rw [hx] at y
          cases y with
          | own y r =>
            rename_i a o
            cases r with
            | lst r =>
              rename_i vs
              have hl := r.length
              have hg : ds[ds.length - 1]? = some d := by rw [← List.getLast?_eq_getElem?]; exact hdl
              obtain ⟨v, hv1, rv⟩ := r.get hg
              have rd : RepsW X.K W vs.dropLast ds.dropLast := by
                rw [List.dropLast_eq_take, List.dropLast_eq_take, hl]
                exact r.take _
              refine ⟨_, hx, .inl ⟨rfl, vs, .inl (.inl (w.o _ _ y))⟩, a, vs, v, rfl, rfl, w.o _ _ y, by rw [hl]; exact hv1, ?_⟩
              obtain ⟨W3, e3, w3, re3⟩ := Re.write w re hds hx y (.lst rd)
              exact q _ _ W3 e3 w3 (re3.setFz (by rw [List.length_set]; exact hc.1) (rv.evoS e3))
      · cases e
    · cases e
  · cases e
end

/-! ### defs -/
abbrev Fn := List D → List MO → Option ((D × Bool) × List MO)
def spF (K : PySem.W.Frag) (n : Nat) (F : Fn) : Sp := fun vs H Q _ => vs.length = n ∧ ∃ W M ds r M', Rw K W M H ∧ RepsW K W vs ds ∧ F ds M = some (r, M') ∧ ∀ v H' W', Evo W W' → Rw K W' M' H' → RepR K W' H' r v → Q v H'
/-- a def by its body: N slots -/
def mkFn (N : Nat) (body : ES) : Fn := fun ds M => match body (ds.map .fz ++ List.replicate (N - ds.length) .no) M with
  | some (.rt r, _, M') => some (r, M')
  | some (.nx, _, M') => some ((.non, false), M')
  | _ => none
def orH (B O : Hp) : Hp := fun a => match B a with
  | some o => some o
  | none => O a
def noH : Hp := fun _ => none
theorem Re.start {K : PySem.W.Frag} {W : Wd} {vs : List V} {ds : List D} (r : RepsW K W vs ds) (k : Nat) : Re K W (ds.map .fz ++ List.replicate (k - ds.length) .no) (vs.map some ++ List.replicate (k - vs.length) none) := by
  have hl := r.length
  refine ⟨by simp [hl], fun i s hs => ?_, fun i j d1 d2 a h1 h2 h3 h4 => ?_⟩
  · by_cases hi : i < ds.length
    · rw [List.getElem?_append_left (by simpa using hi), List.getElem?_map, List.getElem?_eq_getElem hi] at hs
      cases hs
      obtain ⟨v, hv, rv⟩ := r.get (List.getElem?_eq_getElem hi)
      rw [List.getElem?_append_left (by simpa [hl] using hi), List.getElem?_map, hv]
      exact .fz rv
    · have hs0 := hs
      rw [List.getElem?_append_right (by simpa using hi)] at hs
      have hi2 := (List.getElem?_eq_some_iff.mp hs0).1
      simp only [List.length_append, List.length_map, List.length_replicate] at hi2
      rw [List.getElem?_replicate, if_pos (by rw [List.length_map]; omega)] at hs
      cases hs
      rw [List.getElem?_append_right (by rw [List.length_map, hl]; omega), List.getElem?_replicate, if_pos (by rw [List.length_map, hl]; omega)]
      exact .no
  · exfalso
    by_cases hi : i < ds.length
    · rw [List.getElem?_append_left (by simpa using hi), List.getElem?_map, List.getElem?_eq_getElem hi] at h1
      cases h1
    · rw [List.getElem?_append_right (by simpa using hi), List.getElem?_replicate] at h1
      split at h1
      · cases h1
      · cases h1
theorem tS_start {K : PySem.W.Frag} {N : List Str} {n : Nat} {body : ES} {vs : List V} {H : Hp} {Q : VK} {E : XK} (h : spF K n (mkFn N.length body) vs H Q E) : tS K body { nx := fun _ H' => Q .non H', rt := Q } (L2.start N vs) H := by
  obtain ⟨_, W, M, ds, r, M', w, rs, e, q⟩ := h
  unfold mkFn at e
  have w0 : Rw K { W with B := orH W.B W.O, O := noH } M H := by
    refine ⟨w.g, fun a o h => ?_, fun a o h => (nomatch h), fun a h => ⟨?_, rfl⟩, fun a _ => rfl, fun a ha => ⟨(w.ag a ha).1, ?_, rfl⟩, w.nd, w.ml, w.mo⟩
    · have h' : orH W.B W.O a = some o := h
      unfold orH at h'
      split at h'
      · rename_i u hu
        cases h'
        exact w.b _ _ hu
      · exact w.o _ _ h'
    · show orH W.B W.O a = none
      unfold orH
      rw [(w.gb a h).1]
      exact (w.gb a h).2
    · show orH W.B W.O a = none
      unfold orH
      rw [(w.ag a ha).2.1]
      exact (w.ag a ha).2.2
  -- back in the caller's world
  have back : ∀ {W' : Wd} {H' : Hp} {M2 : List MO}, EvoS { W with B := orH W.B W.O, O := noH } W' → Rw K W' M2 H' → Evo W { W' with B := W.B, O := W.O } ∧ Rw K { W' with B := W.B, O := W.O } M2 H' ∧ ∀ {t : D × Bool} {v : V}, RepR K W' H' t v → RepR K { W' with B := W.B, O := W.O } H' t v := fun {W' H' M2} ev w' => by
    have hB : W'.B = orH W.B W.O := ev.b
    have subB : ∀ a o, W.B a = some o → W'.B a = some o := fun a o h => by
      rw [hB]
      unfold orH
      rw [h]
    have subO : ∀ a o, W.O a = some o → W'.B a = some o := fun a o h => by
      rw [hB]
      unfold orH
      have hn : W.B a = none := by
        cases q : W.B a with
        | none => rfl
        | some u =>
          have z := w.bo a (by rw [q]; exact fun z => nomatch z)
          rw [z] at h
          cases h
      rw [hn]
      exact h
    have non : ∀ a, W'.B a = none → W.B a = none ∧ W.O a = none := fun a h => by
      constructor
      · cases q : W.B a with
        | none => rfl
        | some o =>
          rw [subB a o q] at h
          cases h
      · cases q : W.O a with
        | none => rfl
        | some o =>
          rw [subO a o q] at h
          cases h
    refine ⟨⟨ev.g, rfl, rfl, ev.al⟩, ⟨w'.g, fun a o h => w'.b _ _ (subB a o h), fun a o h => w'.b _ _ (subO a o h), fun a h => non a (w'.gb a h).1, fun a h => ?_, fun a h => ⟨(w'.ag a h).1, non a (w'.ag a h).2.1⟩, w'.nd, w'.ml, w'.mo⟩, fun {t v} rr => ?_⟩
    · exact w.bo a h
    · cases rr with
      | old h => exact .old h
      | new h r g b oo m => exact .new h r g (non _ b).1 (non _ b).2 m
  split at e
  · rename_i r' env' M2 hb
    cases e
    refine ⟨_, _, M, .rt _, env', _, w0, Re.start (W := { W with B := orH W.B W.O, O := noH }) rs N.length, hb, fun σ' H' W' ev w' => ?_⟩
    obtain ⟨a1, a2, a3⟩ := back ev w'
    exact fun v rv => q v H' _ a1 a2 (a3 rv)
  · rename_i env' M2 hb
    cases e
    refine ⟨_, _, M, .nx, env', _, w0, Re.start (W := { W with B := orH W.B W.O, O := noH }) rs N.length, hb, fun σ' H' W' ev w' => ?_⟩
    obtain ⟨a1, a2, a3⟩ := back ev w'
    exact fun _ => q _ H' _ a1 a2 (.old .non)
  · cases e
/-- the rule of a def -/
theorem ok_def {P : Program} {w : World} {K : PySem.W.Frag} {mg : Str → Option Value} {base : Heap} {x qual : Str} {st : Stmt} {f : Addr} {fd : FuncData} {N ps : List Str} {k : Nat} {body : ES} (F : L2.Fun K x qual st f fd) (S : FnScope N ps (defScope st))
    (hb : ∀ (cdv : Value) (A : Around) (outer : List PySem.Env) (s : Shared) (H : Hp) (E : XK), Room k (A.deeper (envOfC qual (defScope st) s.heap.objs.size f cdv)) → PSs (cxOf CX0 P w K mg base N qual (defScope st) f cdv A outer s H E).nox (defBody st) (tS K body)) :
    FnOk P w K mg base CX0 (k + 1) f fd ps (spF K ps.length (mkFn N.length body)) := by
  refine F.ok S (fun vs H Q E h => h.1) (fun cdv A outer s H vs Q E hr h => ⟨_, hb cdv A outer s H E hr, ?_⟩)
  exact tS_start h
/-- a call -/
def eFn (F : Fn) (fs : EL) : EE := fun env M => match fs env M with
  | some (ds, M1) => F ds M1
  | none => none
theorem pFn {X : Cx} {k : Nat} {f : Addr} {fd : FuncData} {ps : List Str} {F : Fn} {fs : EL} {x : Str} {p pos : Pos} {e : Expr} {es : List Expr} (G : FnOk X.prog X.w X.K X.mg X.base CX0 k f fd ps (spF X.K ps.length F)) (hr : Room k X.A) (hg : Gl X x) (hm : X.mg x = some (.ref f))
    (hk : PySem.W.keepIn X.K (.ref f) = true) (hb : Binds X.K fd ps []) (ha : PA X (e :: es) (tL X.K fs)) (hlen : ps.length = (e :: es).length) (hfs : ∀ env M ds M', fs env M = some (ds, M') → ds.length = (e :: es).length) (hdb : (x == ("__debug__" : Str)) = false) (hp : (e :: es).all plainE = true) :
    PE X (.Call (.Name x p) (e :: es) [] pos) (tE X.K (eFn F fs)) := by
  rw [List.all_cons, Bool.and_eq_true] at hp
  refine PE.imp (pe_call G hr hg hm hk hb .nil pass0 ha hdb (star_cons hp.1) (back_any hp.2)) fun σ H Q h => ?_
  obtain ⟨W, env, M, r, M', w, re, e, q⟩ := h
  unfold eFn at e
  split at e
  · rename_i ds M1 h1
    refine ⟨W, env, M, ds, M1, w, re, h1, fun vs H1 W1 e1 w1 r1 => ?_⟩
    refine ⟨?_, W1, M1, ds, r, M', w1, ?_, e, fun v H' W' e2 w2 r2 => q v H' W' (e1.trans e2) w2 r2⟩
    · rw [List.append_nil, r1.length, hfs _ _ _ _ h1, hlen]
    · rw [List.append_nil]
      exact r1
  · cases e
end R

set_option Elab.async false
set_option linter.all false
set_option maxRecDepth 100000
set_option maxHeartbeats 2000000
/-! R10: expressions compiled -/
namespace R
open PySem PySem.Spec PyProof.Rows L2

theorem map_some {α β : Type} {o : Option α} {f : α → β} {b : β} (h : o.map f = some b) : ∃ a, o = some a ∧ f a = b := by
  cases o with
  | none => cases h
  | some a =>
    cases h
    exact ⟨a, rfl, rfl⟩
structure Entry where
  F : Fn
  ar : Nat
  lv : Bool := false
structure Cn where
  N : List Str
  fns : List (Str × Entry)
  cst : List (Str × D)
  mu : List Nat
def findIx (x : Str) : List Str → Option Nat
  | [] => none
  | y :: r => if x = y then some 0 else (findIx x r).map (· + 1)
theorem findIx_some {x : Str} : ∀ {l : List Str} {i : Nat}, findIx x l = some i → l[i]? = some x
  | [], _, h => by cases h
  | y :: r, i, h => by
    unfold findIx at h
    by_cases e : x = y
    · rw [if_pos e] at h
      cases h
      rw [e]
      rfl
    · rw [if_neg e] at h
      cases q : findIx x r with
      | none =>
        rw [q] at h
        cases h
      | some j =>
        rw [q] at h
        cases h
        show (y :: r)[j + 1]? = some x
        rw [List.getElem?_cons_succ]
        exact findIx_some q
def visB (sc : Scope) (x : Str) : Bool := match sc.names.lookup x with
  | some .local => true
  | some .cell => true
  | some .free => true
  | _ => false
def glB (sc : Scope) (x : Str) : Bool := match sc.names.lookup x with
  | some .globalImplicit => true
  | _ => false
def locB (sc : Scope) (x : Str) : Bool := match sc.names.lookup x with
  | some .local => true
  | _ => false
def celB (sc : Scope) (x : Str) : Bool := match sc.names.lookup x with
  | some .cell => true
  | _ => false
def okName (x : Str) : Bool := !(x == ("__debug__" : Str)) && !(x == ("__classdict__" : Str)) && !(x == ("__name__" : Str))
def slotOf (c : Cn) (sc : Scope) (x : Str) : Option Nat := if visB sc x && okName x then findIx x c.N else none
def cstOf (c : Cn) (sc : Scope) (x : Str) : Option D := if glB sc x && okName x then c.cst.lookup x else none
/-- the built-in names that are used, none of which the module binds -/
def bNames : List Str := ["len", "tuple", "list", "all", "any", "sum", "int", "abs", "max", "min", "isinstance", "sorted", "set", "dict", "range", "zip", "enumerate", "bool", "str"]
/-- what a def's context gives -/
structure Ctx (X : Cx) (c : Cn) (sc : Scope) (fnS : Str → Bool) : Prop where
  calm : X.calm = true
  nd : X.N.Nodup
  n : X.N = c.N
  scope : X.env.scope = sc
  kind : sc.kind = .function
  fn : ∀ x, fnS x = true → X.fn x = true
  xe : X.xe = fun _ _ => False
  hu : X.A.units + 70 < cLine
  blt : ∀ x ∈ bNames, X.mg x = none
  cst : ∀ x d, c.cst.lookup x = some d → ∃ v u, X.mg x = some u ∧ RelV v u ∧ ∀ W : Wd, RepW X.K W v d
  fns : ∀ x e, c.fns.lookup x = some e → ∃ (k : Nat) (f : Addr) (fd : FuncData) (ps : List Str), FnOk X.prog X.w X.K X.mg X.base CX0 k f fd ps (spF X.K ps.length e.F) ∧ Room k X.A ∧ X.mg x = some (.ref f) ∧ PySem.W.keepIn X.K (.ref f) = true ∧ Binds X.K fd ps [] ∧ ps.length = e.ar
theorem okName_of {x : Str} (h : okName x = true) : (x == ("__debug__" : Str)) = false ∧ (x == ("__classdict__" : Str)) = false ∧ x ≠ ("__name__" : Str) := by
  unfold okName at h
  simp only [Bool.and_eq_true, Bool.not_eq_true'] at h
  exact ⟨h.1.1, h.1.2, fun e => by rw [e] at h; exact absurd h.2 (by decide)⟩
theorem visB_of {sc : Scope} {x : Str} (h : visB sc x = true) : Vis sc x := by
  unfold visB at h
  unfold Vis
  split at h
  · exact .inl (by assumption)
  · exact .inr (.inl (by assumption))
  · exact .inr (.inr (by assumption))
  · cases h
theorem glB_of {X : Cx} {c : Cn} {sc : Scope} {fnS : Str → Bool} {x : Str} (C : Ctx X c sc fnS) (h : glB sc x = true) : Gl X x := by
  unfold glB at h
  split at h
  · show X.env.scope.names.lookup x = _
    rw [C.scope]
    assumption
  · cases h
theorem slotOf_some {X : Cx} {c : Cn} {sc : Scope} {fnS : Str → Bool} {x : Str} {i : Nat} (C : Ctx X c sc fnS) (h : slotOf c sc x = some i) : X.N[i]? = some x ∧ Vis X.env.scope x ∧ (x == ("__debug__" : Str)) = false ∧ (x == ("__classdict__" : Str)) = false := by
  unfold slotOf at h
  split at h
  · rename_i hc
    rw [Bool.and_eq_true] at hc
    obtain ⟨a, b, _⟩ := okName_of hc.2
    exact ⟨by rw [C.n]; exact findIx_some h, by rw [C.scope]; exact visB_of hc.1, a, b⟩
  · cases h
theorem cstOf_some {X : Cx} {c : Cn} {sc : Scope} {fnS : Str → Bool} {x : Str} {d : D} {p : Pos} (C : Ctx X c sc fnS) (h : cstOf c sc x = some d) : PE X (.Name x p) (tF X.K (eCst d)) := by
  unfold cstOf at h
  split at h
  · rename_i hc
    rw [Bool.and_eq_true] at hc
    obtain ⟨a, b, _⟩ := okName_of hc.2
    obtain ⟨v, u, h1, h2, h3⟩ := C.cst x d h
    exact pConst (pe_glob (glB_of C hc.1) h1 h2 a) h3
  · cases h

/-! ### positions -/
abbrev RE := EE × List Nat
abbrev RP := EP × List Nat
abbrev RB := EB × List Nat
abbrev RL := EL × List Nat
/-- a value that is handed on -/
def cF (c : Cn) (sc : Scope) (E : Expr → Option RE) (e : Expr) : Option RP := match e with
  | .Name x _ => match slotOf c sc x with
    | some i => some (eVar i, if c.mu.contains i then [i] else [])
    | none => (cstOf c sc x).map fun d => (eCst d, [])
  | e => (E e).map fun r => (eFz r.1, r.2)
/-- a value that is looked at -/
def cP (c : Cn) (sc : Scope) (E : Expr → Option RE) (e : Expr) : Option RP := match e with
  | .Name x _ => match slotOf c sc x with
    | some i => some (if c.mu.contains i then ePk i else eVar i, [])
    | none => (cstOf c sc x).map fun d => (eCst d, [])
  | e => (E e).map fun r => (eFz r.1, r.2)
def cLF (c : Cn) (sc : Scope) (E : Expr → Option RE) : List Expr → Option RL
  | [] => some (eNil, [])
  | e :: es => match cF c sc E e, cLF c sc E es with
    | some (f, a), some (g, b) => some (eCons f g, a ++ b)
    | _, _ => none
def cLP (c : Cn) (sc : Scope) (E : Expr → Option RE) : List Expr → Option RL
  | [] => some (eNil, [])
  | e :: es => match cP c sc E e, cLP c sc E es with
    | some (f, a), some (g, b) => some (eCons f g, a ++ b)
    | _, _ => none
/-- what the compiled expressions are -/
def SE (X : Cx) (E : Expr → Option RE) : Prop := ∀ e r, E e = some r → PE X e (tE X.K r.1) ∧ plainE e = true
def ST (X : Cx) (T : Expr → Option RB) : Prop := ∀ e r, T e = some r → PT X e (tT X.K r.1)
section
variable {X : Cx} {c : Cn} {sc : Scope} {fnS : Str → Bool} {E : Expr → Option RE}
theorem cF_ok (C : Ctx X c sc fnS) (hE : SE X E) {e : Expr} {r : RP} (h : cF c sc E e = some r) : PE X e (tF X.K r.1) ∧ plainE e = true := by
  unfold cF at h
  split at h
  · rename_i x p
    split at h
    · rename_i i hi
      cases h
      obtain ⟨a, b, c1, d⟩ := slotOf_some C hi
      exact ⟨pVar a b c1 d, rfl⟩
    · cases hd : cstOf c sc x with
      | none =>
        rw [hd] at h
        cases h
      | some d =>
        rw [hd] at h
        cases h
        exact ⟨cstOf_some C hd, rfl⟩
  · cases he : E e with
    | none =>
      rw [he] at h
      cases h
    | some q =>
      rw [he] at h
      cases h
      obtain ⟨a, b⟩ := hE _ _ he
      exact ⟨pFz a, b⟩
theorem cP_ok (C : Ctx X c sc fnS) (hE : SE X E) {e : Expr} {r : RP} (h : cP c sc E e = some r) : PE X e (tP X.K r.1) ∧ plainE e = true := by
  unfold cP at h
  split at h
  · rename_i x p
    split at h
    · rename_i i hi
      cases h
      obtain ⟨a, b, c1, d⟩ := slotOf_some C hi
      refine ⟨?_, rfl⟩
      show PE X _ (tP X.K (if c.mu.contains i then ePk i else eVar i))
      split
      · exact pPeek a b c1 d
      · exact pPk (pVar a b c1 d)
    · cases hd : cstOf c sc x with
      | none =>
        rw [hd] at h
        cases h
      | some d =>
        rw [hd] at h
        cases h
        exact ⟨pPk (cstOf_some C hd), rfl⟩
  · cases he : E e with
    | none =>
      rw [he] at h
      cases h
    | some q =>
      rw [he] at h
      cases h
      obtain ⟨a, b⟩ := hE _ _ he
      exact ⟨pPk (pFz a), b⟩
theorem eCons_len {f : EP} {g : EL} {n : Nat} (h : ∀ env M ds M', g env M = some (ds, M') → ds.length = n) : ∀ env M ds M', eCons f g env M = some (ds, M') → ds.length = n + 1 := fun env M ds M' e => by
  obtain ⟨x, M1, xs, _, b, rfl⟩ := eCons_some e
  rw [List.length_cons, h _ _ _ _ b]
theorem cLF_ok (C : Ctx X c sc fnS) (hE : SE X E) : ∀ {es : List Expr} {r : RL}, cLF c sc E es = some r → PA X es (tL X.K r.1) ∧ es.all plainE = true ∧ ∀ env M ds M', r.1 env M = some (ds, M') → ds.length = es.length
  | [], r, h => by
    cases h
    exact ⟨pNil, rfl, fun env M ds M' e => by cases e; rfl⟩
  | e :: es, r, h => by
    unfold cLF at h
    split at h
    · rename_i f a g b h1 h2
      cases h
      obtain ⟨p1, p2⟩ := cF_ok C hE h1
      obtain ⟨q1, q2, q3⟩ := cLF_ok C hE h2
      exact ⟨pCons p1 q1 (star_cons p2), by rw [List.all_cons, p2, q2]; rfl, eCons_len q3⟩
    · cases h
theorem cLP_ok (C : Ctx X c sc fnS) (hE : SE X E) : ∀ {es : List Expr} {r : RL}, cLP c sc E es = some r → PA X es (tLP X.K r.1) ∧ es.all plainE = true
  | [], r, h => by
    cases h
    exact ⟨pNilP, rfl⟩
  | e :: es, r, h => by
    unfold cLP at h
    split at h
    · rename_i f a g b h1 h2
      cases h
      obtain ⟨p1, p2⟩ := cP_ok C hE h1
      obtain ⟨q1, q2⟩ := cLP_ok C hE h2
      exact ⟨pConsP p1 q1 (star_cons p2), by rw [List.all_cons, p2, q2]; rfl⟩
    · cases h
end

/-! ### operators -/
def bOp : Operator → Option Op2
  | .Add => some dAdd
  | .Sub => some dSub
  | .Mult => some dMul
  | .FloorDiv => some dDiv
  | .Mod => some dMod
  | .Pow => some dPow
  | _ => none
theorem bOp_ok {X : Cx} {op : Operator} {f : Op2} (h : bOp op = some f) : ∃ r, OpR X (binaryOp op) r ∧ Ok2 X.K r f := by
  unfold bOp at h
  split at h
  · cases h
    exact ⟨_, op_addX, ok_add⟩
  · cases h
    exact ⟨_, op_sub, ok_sub⟩
  · cases h
    exact ⟨_, op_mulX, ok_mul⟩
  · cases h
    exact ⟨_, op_fdiv, ok_div⟩
  · cases h
    exact ⟨_, op_mod, ok_mod⟩
  · cases h
    exact ⟨_, op_pow, ok_pow⟩
  · cases h
def cOp : CmpOp → Op2
  | .Eq => dEq
  | .NotEq => dNe
  | .Lt => dLt
  | .LtE => dLe
  | .Gt => dGt
  | .GtE => dGe
  | .Is => dIs
  | .IsNot => dIsNot
  | .In => dIn false
  | .NotIn => dIn true
theorem cOp_ok {X : Cx} (hu : X.A.units + 70 < cLine) (op : CmpOp) : ∃ r, OpR X (compareOp op) r ∧ Ok2 X.K r (cOp op) := by
  cases op with
  | Eq => exact ⟨_, op_eqX (by omega), ok_eq⟩
  | NotEq => exact ⟨_, op_neX (by omega), ok_ne⟩
  | Lt => exact ⟨_, op_ltX, ok_ord⟩
  | LtE => exact ⟨_, op_leX, ok_ord⟩
  | Gt => exact ⟨_, op_gtX, ok_ord⟩
  | GtE => exact ⟨_, op_geX, ok_ord⟩
  | Is => exact ⟨_, op_isN, ok_is⟩
  | IsNot => exact ⟨_, op_notN, ok_isNot⟩
  | In => exact ⟨_, OpR.or (op_inX (by omega)) op_inS, ok_in⟩
  | NotIn => exact ⟨_, OpR.or (op_notInX (by omega)) op_notInS, ok_in⟩
/-- a op b op' c -/
def eChain (f g : Op2) (fa fb fc : EP) : EE := fun env M => match fa env M with
  | some (x, M1) => match fb env M1 with
    | some (y, M2) => match f x y with
      | some (.bl true, false) => match fc env M2 with
        | some (z, M3) => (g y z).map fun r => (r, M3)
        | none => none
      | some (.bl false, false) => some ((.bl false, false), M2)
      | _ => none
    | none => none
  | none => none
section
variable {K : PySem.W.Frag}
theorem tE_chain {r r' : R2} {f g : Op2} {fa fb fc : EP} {σ : L2.St} {H : Hp} {Q : VK} (ok : Ok2 K r f) (ok' : Ok2 K r' g) (h : tE K (eChain f g fa fb fc) σ H Q) : tChain r r' (tP K fa) (tP K fb) (tP K fc) σ H Q := by
  obtain ⟨W, env, M, rr, M', w, re, e, q⟩ := h
  unfold eChain at e
  split at e
  · rename_i x M1 h1
    split at e
    · rename_i y M2 h2
      refine ⟨W, env, M, x, M1, w, re, h1, fun v1 H1 W1 e1 w1 r1 => ⟨W1, env, M1, y, M2, w1, re.evo e1, h2, fun v2 H2 W2 e2 w2 r2 => ?_⟩⟩
      split at e
      · rename_i hf
        split at e
        · rename_i z M3 h3
          cases hg : g y z with
          | none =>
            rw [hg] at e
            cases e
          | some t =>
            rw [hg] at e
            cases e
            refine ok W2 M2 H2 v1 v2 x y _ _ w2 (r1.evo e2) r2 hf fun v3 H3 W3 e3 w3 r3 => ?_
            cases r3 with
            | old r3 =>
              cases r3
              refine ⟨true, rfl, iteT ⟨W3, env, M2, z, _, w3, ((re.evo e1).evo e2).evo e3, h3, fun v4 H4 W4 e4 w4 r4 => ?_⟩⟩
              exact ok' W4 _ H4 v2 v4 y z _ _ w4 ((r2.evo e3).evo e4) r4 hg fun v5 H5 W5 e5 w5 r5 => q _ _ _ ((((e1.trans e2).trans e3).trans e4).trans e5) w5 r5
        · cases e
      · rename_i hf
        cases e
        refine ok W2 _ H2 v1 v2 x y _ _ w2 (r1.evo e2) r2 hf fun v3 H3 W3 e3 w3 r3 => ?_
        cases r3 with
        | old r3 =>
          cases r3
          exact ⟨false, rfl, iteF (q _ _ _ ((e1.trans e2).trans e3) w3 (.old (.bl _)))⟩
      · cases e
    · cases e
  · cases e
/-- a compiled value that is True or False, as a test of the same parts -/
theorem tT_of_tE {f : EE} {σ : L2.St} {H : Hp} {Q : Bool → Hp → Prop} (h : tT K (tbB (eFz f)) σ H Q) : tE K f σ H fun x H' => ∃ k, x = .bl k ∧ Q k H' := by
  have h2 := tT_bool h
  exact tF_of_tE h2
end
section
variable {X : Cx} {e a b d : Expr} {pos : Pos}
theorem ptCmp {op : CmpOp} {r : R2} {f : Op2} {fa fb : EP} (ho : OpR X (compareOp op) r) (ok : Ok2 X.K r f) (ha : PE X a (tP X.K fa)) (hb : PE X b (tP X.K fb)) (hm : behindInMarks op b = false) : PT X (.Compare a [op] [b] pos) (tT X.K (tbB (eFz (eOp f fa fb)))) :=
  PT.imp (pt_cmpR ho ha hb hm) fun _ _ _ h => tE_op ok (tT_of_tE h)
theorem pChain {op op' : CmpOp} {r r' : R2} {f g : Op2} {fa fb fc : EP} (ho : OpR X (compareOp op) r) (ho' : OpR X (compareOp op') r') (ok : Ok2 X.K r f) (ok' : Ok2 X.K r' g) (ha : PE X a (tP X.K fa)) (hb : PE X b (tP X.K fb)) (hd : PE X d (tP X.K fc)) (hm : lastMarks [op, op'] [b, d] = false) :
    PE X (.Compare a [op, op'] [b, d] pos) (tE X.K (eChain f g fa fb fc)) := PE.imp (pe_chain ho ho' ha hb hd hm) fun _ _ _ h => tE_chain ok ok' h
theorem ptChain {op op' : CmpOp} {r r' : R2} {f g : Op2} {fa fb fc : EP} (ho : OpR X (compareOp op) r) (ho' : OpR X (compareOp op') r') (ok : Ok2 X.K r f) (ok' : Ok2 X.K r' g) (ha : PE X a (tP X.K fa)) (hb : PE X b (tP X.K fb)) (hd : PE X d (tP X.K fc)) (hm : lastMarks [op, op'] [b, d] = false) :
    PT X (.Compare a [op, op'] [b, d] pos) (tT X.K (tbB (eFz (eChain f g fa fb fc)))) := PT.imp (pt_chain ho ho' ha hb hd hm) fun _ _ _ h => tE_chain ok ok' (tT_of_tE h)
/-- not, of any value -/
theorem pNotT {f : EP} (ha : PE X a (tP X.K f)) : PE X (.UnaryOp .Not a pos) (tF X.K (bVal (eNot (tbV f)))) := PE.imp (pe_notT ha) fun σ H Q h => by
  obtain ⟨W, env, M, v, M', w, re, e, q⟩ := h
  unfold bVal at e
  cases hc : eNot (tbV f) env M with
  | none =>
    rw [hc] at e
    cases e
  | some p =>
    obtain ⟨k, M1⟩ := p
    rw [hc] at e
    cases e
    have z := eNot_some hc
    unfold tbV at z
    split at z
    · rename_i d M2 hf
      cases hd : d.truth with
      | none =>
        rw [hd] at z
        cases z
      | some t =>
        rw [hd] at z
        cases z
        refine ⟨W, env, M, d, _, w, re, hf, fun v H' W' e1 w1 r1 => ⟨_, r1.truth w1 hd, ?_⟩⟩
        rw [Bool.not_not]
        exact q _ _ _ e1 w1 (.bl _)
    · cases z
end

def isiTy (y : Str) : Option String := if y = "int" then some "int" else if y = "str" then some "str" else if y = "bool" then some "bool" else if y = "tuple" then some "tuple" else none
theorem isiTy_ok {X : Cx} {c : Cn} {sc : Scope} {fnS : Str → Bool} {y : Str} {T : String} (C : Ctx X c sc fnS) (h : isiTy y = some T) : X.mg y = none ∧ bootBuiltins y = some (.type T) ∧ y ≠ "__name__" ∧ (y == ("__debug__" : Str)) = false := by
  unfold isiTy at h
  split at h
  · rename_i z
    subst z
    cases h
    exact ⟨C.blt _ (by decide), by decide +kernel, by decide, by decide⟩
  split at h
  · rename_i z
    subst z
    cases h
    exact ⟨C.blt _ (by decide), by decide +kernel, by decide, by decide⟩
  split at h
  · rename_i z
    subst z
    cases h
    exact ⟨C.blt _ (by decide), by decide +kernel, by decide, by decide⟩
  split at h
  · rename_i z
    subst z
    cases h
    exact ⟨C.blt _ (by decide), by decide +kernel, by decide, by decide⟩
  · cases h
end R

set_option Elab.async false
set_option linter.all false
set_option maxRecDepth 100000
set_option maxHeartbeats 2000000
/-! R13: sorted -/
namespace R
open PySem PySem.Spec PySem.Calls PyProof.Rows L2
section
variable {prog : Program} {w : World} {A : Around} {E : Value → Shared → Prop} {s : Shared}
theorem collect_tup {l : Addr} {vs : List Value} {Q : List Value → Shared → Prop} (hl : s.heap.IsTuple l vs.toArray) (hsz : vs.length ≤ sizeLine)
    (h : Q vs { s with heap := (s.heap.push (seqObj "list" #[] 0)).update s.heap.objs.size (Obj.mapSeq (· ++ vs.toArray)) }) :
    wpAny (model prog w) A (collect (.ref l)) Q E s := by
  obtain ⟨o, ho, hc, n, hd⟩ := id hl
  unfold collect
  refine wpAny_bind (wpAny_runValue (codeAny_builtin entry_proto_collect' ?_))
  show wpAny _ _ (do again (.builtin "list.__iadd__" ⟨[← newList [], .ref l], []⟩)) _ _ s
  refine wpAny_bind (wpAny_newList (wpAny_pure ⟨Code.quiet_builtin _ (by decide +kernel), codeAny_builtin entry_list_iadd' ?_⟩))
  show wpAny _ _ (Builtin.List.listExtendWith (.ref s.heap.objs.size) (.ref l) (.ref s.heap.objs.size)) _ _ { s with heap := s.heap.push (seqObj "list" #[] 0) }
  unfold Builtin.List.listExtendWith
  have ho' : (s.heap.push (seqObj "list" #[] 0)).get? l = some o := Heap.get?_push_of_some _ ho
  refine wpAny_bind (wpAny_typeOf (T := "tuple") ⟨o, ho', hc⟩ ?_)
  have ht : (Value.type "tuple" == Value.type "tuple") = true := by rfl
  rw [if_pos (by rw [ht]; simp)]
  refine wpAny_bind (listItems_at ho' hd ?_)
  refine wpAny_bind (listItems_at (xs := #[]) (n := 0) (Heap.get?_push_size _ rfl) rfl ?_)
  rw [if_neg (by simp)]
  refine wpAny_bind (listUpdate_at (xs := #[]) (n := 0) (Heap.get?_push_size _ rfl) rfl ?_ (Nat.zero_le _) (by show (#[] ++ vs.toArray).size ≤ sizeLine + 1; simp only [Array.size_append, List.size_toArray, List.length_nil]; omega))
  refine wpAny_pure ?_
  show wpAny (model prog w) A (do
      let o ← load s.heap.objs.size
      match o.data with
      | .seq xs _ => pure xs.toList
      | _ => unsupported "internal:collect") Q E { s with heap := (s.heap.push (seqObj "list" #[] 0)).update s.heap.objs.size (Obj.mapSeq (· ++ vs.toArray)) }
  refine wpAny_bind (wpAny_load (get?_update_seq (Heap.get?_push_size _ rfl) _) ?_)
  show wpAny _ _ (pure ((#[] : Array Value) ++ vs.toArray).toList) Q E _
  rw [show ((#[] : Array Value) ++ vs.toArray).toList = vs by simp]
  exact wpAny_pure h
/-- sorted(xs) is list.sort() of a new list of the items -/
theorem sorted_by {l : Addr} {vs : List Value} {Q : Value → Shared → Prop} (hl : s.heap.IsList l vs.toArray ∨ s.heap.IsTuple l vs.toArray) (hL : vs.length ≤ sizeLine)
    (body : ∀ E' : Value → Shared → Prop, wpAny (model prog w) A.in1.in1 (Builtin.«list.sort» ⟨[.ref (s.heap.objs.size + 1)], []⟩) (fun f s' => f = .done (.ret .none) ∧ Q (.ref (s.heap.objs.size + 1)) s') E' { s with heap := PySem.W.copyHeap s.heap vs }) :
    wpAny (model prog w) A (call (.builtin "sorted") [.ref l]) Q E s := by
  refine call_function_entry_kw kind_sorted plain_sorted entry_sorted (args_sorted1 _) ?_
  unfold Builtin.«sorted»
  refine wpAny_bind (m := checkCount "sorted" 1 1 _) (wpAny_pure ?_)
  have cl : ∀ {Q' : List Value → Shared → Prop} {A' : Around} {E' : Value → Shared → Prop}, Q' vs { s with heap := (s.heap.push (seqObj "list" #[] 0)).update s.heap.objs.size (Obj.mapSeq (· ++ vs.toArray)) } → wpAny (model prog w) A' (collect (.ref l)) Q' E' s := fun {Q' A' E'} h => by
    rcases hl with hl | hl
    · exact collect_list hl h hL
    · exact collect_tup hl hL h
  refine wpAny_bind (cl ?_)
  refine wpAny_bind (wpAny_newList ?_ hL)
  have hsz : ((s.heap.push (seqObj "list" #[] 0)).update s.heap.objs.size (Obj.mapSeq (· ++ vs.toArray))).objs.size = s.heap.objs.size + 1 := by
    rw [Heap.size_update, size_push']
  show wpAny _ _ _ _ _ { s with heap := PySem.W.copyHeap s.heap vs }
  rw [hsz]
  refine wpAny_bind (wpAny_holding (wpAny_call_entry_kw slot_list_sort ⟨_, PySem.W.copyHeap_at s.heap vs, rfl⟩ entry_list_sort ?body (args_list_sort _)))
  case body =>
    show wpAny (model prog w) A.in1.in1 (Builtin.«list.sort» ⟨[.ref (s.heap.objs.size + 1)], []⟩) _ _ _
    refine wpAny_mono (body _) (fun f s' hf => ?_) fun _ _ e => e
    obtain ⟨rfl, hq⟩ := hf
    exact ⟨_, rfl, wpAny_pure ⟨_, rfl, hq⟩⟩
end

abbrev D.le (d e : D) : Bool := PySem.W.dataLe false D.py d e
def rSortedD (K : PySem.W.Frag) : List V → Hp → VK → Prop := fun xs H Q => ∃ (a : Addr) (bs : List (V × D)), xs = [.ref a] ∧ (SqL K H a (bs.map (·.1)) ∨ SqT K H a (bs.map (·.1))) ∧
  (bs.length < 2 ∨ (PySem.W.AllAlike (bs.map (·.2.py)) ∧ PySem.W.Sortable (bs.map (·.2.py)) ∧ ∀ b ∈ bs, Dp K H b.1 b.2.py ∧ b.2.py.depth ≤ 64)) ∧
  ∀ p, H p = none → Q (.ref p) (upd H p (.lst ((bs.mergeSort (PySem.W.dataLe false (·.2.py))).map (·.1))))
theorem each_of_vals {h : Heap} {P : Value → V × D → Prop} : ∀ {bs : List (V × D)} {us : List Value}, Vals (bs.map (·.1)) us → (∀ b ∈ bs, ∀ u, RelV b.1 u → P u b) → PySem.W.EachIs P us bs
  | [], _, .nil, _ => .nil
  | b :: bs, _, .cons r rs, f => .cons (f b (List.mem_cons_self ..) _ r) (each_of_vals (h := h) rs fun c hc => f c (List.mem_cons_of_mem _ hc))
theorem vals_of_each : ∀ {bs : List (V × D)} {us : List Value}, PySem.W.EachIs (fun u b => RelV b.1 u) us bs → Vals (bs.map (·.1)) us
  | [], _, .nil => .nil
  | _ :: _, _, .cons r rs => .cons r (vals_of_each rs)
theorem sort_short {α : Type} {le : α → α → Bool} {bs : List α} (h : bs.length < 2) : bs.mergeSort le = bs := by
  match bs, h with
  | [], _ => simp
  | [b], _ => simp
  | _ :: _ :: _, h => exact absurd h (by simp)
theorem srt_short {α : Type} {bs os : List α} (h : bs.length < 2) (p : os.Perm bs) : os = bs := by
  match bs, h with
  | [], _ => exact p.eq_nil
  | [b], _ => exact List.perm_singleton.mp p
  | _ :: _ :: _, h => exact absurd h (by simp)
section
variable {X : Cx}
theorem cr_sortedD (hu : X.A.units + 70 < cLine) : CallR X (.builtin "sorted") (rSortedD X.K) := by
  intro pins s σ H vs us Q I r h
  obtain ⟨a, bs, rfl, hs, hk, q⟩ := h
  rw [Vals.ref1 r]
  obtain ⟨its, rv, hl, hz⟩ : ∃ its : List Value, Vals (bs.map (·.1)) its ∧ (s.heap.IsList a its.toArray ∨ s.heap.IsTuple a its.toArray) ∧ its.length ≤ sizeLine := by
    rcases hs with hs | hs
    · obtain ⟨its, rv, hl, hz⟩ := I.list hs
      exact ⟨its, rv, .inl hl.isList, by rw [← rv.length]; exact hz⟩
    · obtain ⟨its, rv, hl, hz⟩ := I.tuple hs
      exact ⟨its, rv, .inr (by obtain ⟨o, h1, h2, n, h3⟩ := hl; exact ⟨o, h1, h2, n, h3⟩), by rw [← rv.length]; exact hz⟩
  have hlen := rv.length
  rw [List.length_map] at hlen
  have fin : ∀ out : List Value, Vals ((bs.mergeSort (PySem.W.dataLe false (·.2.py))).map (·.1)) out → L2.EP X pins σ Q (.ref (s.heap.objs.size + 1)) { s with heap := sortedAll s.heap its out.toArray } := fun out ro => by
    obtain ⟨ep, he'⟩ := sortedAll_at s.heap its out.toArray
    have hlen' : ((bs.mergeSort (PySem.W.dataLe false (·.2.py))).map (·.1)).length ≤ sizeLine := by
      rw [List.length_map, List.length_mergeSort, hlen]
      exact hz
    exact ⟨.ref _, upd H (s.heap.objs.size + 1) (.lst _), I.laid (t' := s.toks) (fun _ _ => sortedAll_old) (Nat.le_succ _) ⟨hlen', out, ep, ro, he'⟩, rfl, q _ (I.hok.fresh (Nat.le_succ _))⟩
  refine sorted_by hl hz fun E' => ?_
  rcases hk with hk | ⟨h1, h2, h3⟩
  · refine SrtO.list_sort_ord (s := { s with heap := PySem.W.copyHeap s.heap its }) SrtO.swo_int (PySem.W.copyHeap_at s.heap its) hz (fun h2 => absurd h2 (by omega)) fun out _ hb => ⟨rfl, ?_⟩
    have e : out = its := srt_short (by omega) hb.perm
    subst e
    exact fin _ (by rw [sort_short hk]; exact rv)
  · have er : PySem.W.EachIs (fun v (b : V × D) => ∃ as, Reads s.heap v b.2.py as) its bs := each_of_vals (h := s.heap) rv fun b hb u ru => Dp.reads I _ _ _ (h3 b hb).1 ru
    have e : PySem.W.EachIs (fun u (b : V × D) => RelV b.1 u) its bs := each_of_vals (h := s.heap) rv fun b hb u ru => ru
    have er' : PySem.W.EachIs (fun v (b : V × D) => ∃ as, Reads (PySem.W.sortingHeap (PySem.W.copyHeap s.heap its) (s.heap.objs.size + 1) its) v b.2.py as) its bs := er.mono fun _ _ ⟨as, r⟩ => ⟨as, PyProof.Rows.Reads.keeps (fun _ _ => PySem.W.sorting_copy_old) r⟩
    refine PySem.W.list_sort_vals (s := { s with heap := PySem.W.copyHeap s.heap its }) (PySem.W.copyHeap_at s.heap its) (PySem.W.SortsAt.data (s := { s with heap := PySem.W.sortingHeap (PySem.W.copyHeap s.heap its) (s.heap.objs.size + 1) its }) (PySem.W.each_map (R := fun v d => ∃ as, Reads (PySem.W.sortingHeap (PySem.W.copyHeap s.heap its) (s.heap.objs.size + 1) its) v d as) (fun b : V × D => b.2.py) er') h1 h2 (PySem.W.bound_map fun b hb => ?_)) hz ⟨rfl, ?_⟩
    · have z := (h3 b hb).2
      show X.A.units + 2 + b.2.py.depth < cLine
      omega
    · exact fin _ (vals_of_each (PySem.W.sortVals_data (enc := fun b : V × D => b.2.py) false e er' h1))
end
def D.alikeB (ds : List D) : Bool := ds.all fun d => ds.all fun e => PySem.W.alike d.py e.py
def D.sortB (ds : List D) : Bool := (ds.all fun d => match d with
  | .tup (_ :: _) => true
  | _ => false) || ds.all fun d => match d with
  | .tup _ => false
  | .non => false
  | _ => true
def sortC (ds : List D) : Bool := decide (ds.length < 2) || (D.alikeB ds && D.sortB ds && ds.all fun d => d.pure && decide (d.depth ≤ 64))
def sortD (ds : List D) : Option (D × Bool) := if sortC ds then some (.lst (ds.mergeSort D.le), true) else none
def dSorted : OpN
  | [.tup xs] => sortD xs
  | [.lst xs] => sortD xs
  | [.scr xs] => sortD xs
  | _ => none
theorem zip_fst {α β : Type} : ∀ {as : List α} {bs : List β}, as.length = bs.length → (as.zip bs).map (·.1) = as
  | [], [], _ => rfl
  | a :: as, b :: bs, h => by
    show a :: (as.zip bs).map (·.1) = _
    rw [zip_fst (by simpa using h)]
theorem zip_snd {α β : Type} : ∀ {as : List α} {bs : List β}, as.length = bs.length → (as.zip bs).map (·.2) = bs
  | [], [], _ => rfl
  | a :: as, b :: bs, h => by
    show b :: (as.zip bs).map (·.2) = _
    rw [zip_snd (by simpa using h)]
theorem Reps.zips {K : PySem.W.Frag} {G : Hp} {al : List Addr} : ∀ {vs : List V} {ds : List D}, Reps K G al vs ds → ∀ p ∈ vs.zip ds, Rep K G al p.1 p.2
  | _, _, .nil, p, h => (by cases h)
  | _, _, .cons h r, p, hp => by
    rw [List.zip_cons_cons, List.mem_cons] at hp
    rcases hp with rfl | hp
    · exact h
    · exact Reps.zips r p hp
theorem Reps.ofPairs {K : PySem.W.Frag} {G : Hp} {al : List Addr} : ∀ {bs : List (V × D)}, (∀ p ∈ bs, Rep K G al p.1 p.2) → Reps K G al (bs.map (·.1)) (bs.map (·.2))
  | [], _ => .nil
  | b :: bs, h => .cons (h b (List.mem_cons_self ..)) (Reps.ofPairs fun p hp => h p (List.mem_cons_of_mem _ hp))
theorem alikeB_of {ds : List D} (h : D.alikeB ds = true) : PySem.W.AllAlike (ds.map D.py) := by
  intro d hd e he
  obtain ⟨x, hx, rfl⟩ := List.mem_map.mp hd
  obtain ⟨y, hy, rfl⟩ := List.mem_map.mp he
  exact List.all_eq_true.mp (List.all_eq_true.mp h x hx) y hy
theorem sortB_of {ds : List D} (h : D.sortB ds = true) : PySem.W.Sortable (ds.map D.py) := by
  unfold D.sortB at h
  rw [Bool.or_eq_true] at h
  rcases h with h | h
  · refine .inl fun d hd => ?_
    obtain ⟨x, hx, rfl⟩ := List.mem_map.mp hd
    have z := List.all_eq_true.mp h x hx
    split at z
    · exact ⟨_, _, by rw [D.py, D.pys]⟩
    · cases z
  · refine .inr fun d hd => ?_
    obtain ⟨x, hx, rfl⟩ := List.mem_map.mp hd
    have z := List.all_eq_true.mp h x hx
    cases x <;> simp [D.py] at z ⊢
theorem sort_pairs {vs : List V} {ds : List D} (h : vs.length = ds.length) : ((vs.zip ds).mergeSort (PySem.W.dataLe false fun p : V × D => p.2.py)).map (·.2) = ds.mergeSort D.le := by
  have e := List.map_mergeSort (r := PySem.W.dataLe false fun p : V × D => p.2.py) (s := D.le) (f := fun p : V × D => p.2) (l := vs.zip ds) (fun a _ b _ => rfl)
  rw [e, zip_snd h]
theorem ok_sorted {K : PySem.W.Frag} : OkN K (rSortedD K) dSorted := by
  intro W M H x d res Q w rs h q
  have go : ∀ {xs : List D} {a : Addr} {vs : List V}, (SqL K H a vs ∨ SqT K H a vs) → RepsW K W vs xs → sortD xs = some res → rSortedD K [.ref a] H Q := fun {xs a vs} hs r h => by
    unfold sortD at h
    split at h
    · rename_i hc
      cases h
      have hl := r.length
      refine ⟨a, vs.zip xs, rfl, by rw [zip_fst hl]; exact hs, ?_, fun p hp => ?_⟩
      · unfold sortC at hc
        simp only [Bool.or_eq_true, decide_eq_true_eq, Bool.and_eq_true] at hc
        rcases hc with hc | ⟨⟨h1, h2⟩, h3⟩
        · exact .inl (by rw [List.length_zip, hl, Nat.min_self]; exact hc)
        · have e : (vs.zip xs).map (fun p : V × D => p.2.py) = xs.map D.py := by
            rw [show (fun p : V × D => p.2.py) = D.py ∘ (fun p : V × D => p.2) from rfl, ← List.map_map, zip_snd hl]
          refine .inr ⟨by rw [e]; exact alikeB_of h1, by rw [e]; exact sortB_of h2, fun b hb => ?_⟩
          have rb := Reps.zips r b hb
          have hm : b.2 ∈ xs := by
            have z : b.2 ∈ (vs.zip xs).map (·.2) := List.mem_map.mpr ⟨b, hb, rfl⟩
            rw [zip_snd hl] at z
            exact z
          have z := List.all_eq_true.mp h3 _ hm
          rw [Bool.and_eq_true, decide_eq_true_eq] at z
          exact ⟨(Rep.dp w.g rb z.1).1, by rw [D.depth_py _ z.1]; exact z.2⟩
      · have rr : RepsW K W (((vs.zip xs).mergeSort (PySem.W.dataLe false fun p : V × D => p.2.py)).map (·.1)) (((vs.zip xs).mergeSort (PySem.W.dataLe false fun p : V × D => p.2.py)).map (·.2)) := Reps.ofPairs fun p hp => Reps.zips r p (List.mem_mergeSort.mp hp)
        rw [sort_pairs hl] at rr
        obtain ⟨w3, r3⟩ := w.newL hp (.lst rr)
        exact q _ _ _ (Evo.refl W) w3 r3
    · cases h
  unfold dSorted at h
  split at h
  · obtain ⟨v, rfl, r⟩ := RepP.one rs
    obtain ⟨a, vs, rfl, h1, r1⟩ := r.tup w
    exact go (.inr h1) r1 h
  · obtain ⟨v, rfl, r⟩ := RepP.one rs
    obtain ⟨a, vs, rfl, h1, r1⟩ := r.lst w
    exact go (.inl (.inl (.inl h1))) r1 h
  · obtain ⟨v, rfl, r⟩ := RepP.one rs
    obtain ⟨a, vs, rfl, h1, r1⟩ := r.scr w
    exact go (.inl h1) r1 h
  · cases h
end R

set_option Elab.async false
set_option linter.all false
set_option maxRecDepth 100000
set_option maxHeartbeats 4000000
/-! R14: sets of whole numbers and texts: made, counted, sorted -/
namespace R
open PySem PySem.Spec PySem.Calls PyProof.Rows L2
theorem each_perm {α β : Type} {T : α → β → Prop} : ∀ {as as' : List α} {bs : List β}, as'.Perm as → PySem.W.EachIs T as bs → ∃ bs' : List β, bs'.Perm bs ∧ PySem.W.EachIs T as' bs' := by
  intro as as' bs p
  induction p generalizing bs with
  | nil => exact fun h => ⟨bs, List.Perm.refl _, h⟩
  | cons x _ ih =>
    intro h
    cases h with
    | cons h t =>
      obtain ⟨bs', p', t'⟩ := ih t
      exact ⟨_ :: bs', p'.cons _, .cons h t'⟩
  | swap x y l =>
    intro h
    cases h with
    | cons h t =>
      cases t with
      | cons h2 t =>
        exact ⟨_ :: _ :: _, List.Perm.swap .., .cons h2 (.cons h t)⟩
  | trans _ _ ih1 ih2 =>
    intro h
    obtain ⟨b1, p1, e1⟩ := ih2 h
    obtain ⟨b2, p2, e2⟩ := ih1 e1
    exact ⟨b2, p2.trans p1, e2⟩
theorem each_mem1 {α β : Type} {T : α → β → Prop} : ∀ {as : List α} {bs : List β}, PySem.W.EachIs T as bs → ∀ a ∈ as, ∃ b ∈ bs, T a b
  | _, _, .nil, a, h => (by cases h)
  | _, _, .cons h t, a, ha => by
    rcases List.mem_cons.mp ha with rfl | ha
    · exact ⟨_, List.mem_cons_self .., h⟩
    · obtain ⟨b, hb, q⟩ := each_mem1 t a ha
      exact ⟨b, List.mem_cons_of_mem _ hb, q⟩
theorem each_mem2 {α β : Type} {T : α → β → Prop} : ∀ {as : List α} {bs : List β}, PySem.W.EachIs T as bs → ∀ b ∈ bs, ∃ a ∈ as, T a b
  | _, _, .nil, a, h => (by cases h)
  | _, _, .cons h t, b, hb => by
    rcases List.mem_cons.mp hb with rfl | hb
    · exact ⟨_, List.mem_cons_self .., h⟩
    · obtain ⟨a, ha, q⟩ := each_mem2 t b hb
      exact ⟨a, List.mem_cons_of_mem _ ha, q⟩
/-- an entry of the table that stands for a key -/
def EntM (w : World) (e : Int × Value) (k : Key) : Prop := keyIs k e.2 = true ∧ e.1 = keyH w k
def LedM (w : World) (t : SetTable) : Prop := w.params.followText "set-order" = true ∨ t.led = true
/-- the set at a has the keys L -/
def SetM (w : World) (h : Heap) (a : Addr) (L : List Key) : Prop :=
  ∃ o es ep t ks, h.get? a = some o ∧ o.ExactSet ∧ o.data = .set es ep t ∧ ks.Perm L ∧ PySem.W.EachIs (EntM w) es.toList ks ∧ L.Nodup ∧ es.size < scanBound ∧ t.fits es.size = true ∧ Ris t.place.toList ∧ LedM w t
theorem keyIs_scan {k : Key} {v : Value} (h : keyIs k v = true) : v.scannable = true := by
  rcases keyIs_shape h with ⟨i, t, rfl, rfl⟩ | ⟨x, t, rfl, rfl⟩ <;> rfl
section
variable {P : Program} {w : World} {h h' : Heap} {a : Addr} {L : List Key}
theorem SetM.at (m : SetM w h a L) (k : ∀ o, h.get? a = some o → h'.get? a = some o) : SetM w h' a L := by
  obtain ⟨o, es, ep, t, ks, ho, r⟩ := m
  exact ⟨o, es, ep, t, ks, k o ho, r⟩
theorem SetM.new (ho : h.get? a = some { cls := .type "set", dict := none, data := .set #[] 0 (.fresh 0 0 (!w.params.followText "set-order")) }) : SetM w h a [] :=
  ⟨_, #[], 0, _, [], ho, ⟨rfl, rfl, rfl⟩, rfl, List.Perm.refl _, .nil, List.nodup_nil, (by decide), (by rfl), List.Pairwise.nil, by
    show _ ∨ (!w.params.followText "set-order") = true
    cases w.params.followText "set-order"
    · exact .inr rfl
    · exact .inl rfl⟩
theorem entM_elems {es : List (Int × Value)} {ks : List Key} (e : PySem.W.EachIs (EntM w) es ks) : ElemsOf (mixKind P w) es := fun x hx => by
  obtain ⟨k, _, q⟩ := each_mem1 e x hx
  exact ⟨⟨k, q.1, q.2⟩, keyIs_scan q.1⟩
end
section
variable {P : Program} {w : World} {A : Around} {E : Value → Shared → Prop} {s : Shared} {a : Addr} {L : List Key}
theorem addM_tail {g : Bool → Sem Unit} (hg : ∀ (b : Bool) (s₁ : Shared) (Q' : Unit → Shared → Prop), Q' () s₁ → wpAny (model P w) A (g b) Q' E s₁)
    {o : Obj} {es es1 : Array (Int × Value)} {ep : Nat} {t t2 : SetTable} {ks : List Key} (ho : s.heap.get? a = some o) (hex : o.ExactSet) (hd : o.data = .set es ep t)
    (e1 : PySem.W.EachIs (EntM w) es1.toList ks) (p1 : ks.Perm L) (nd : L.Nodup) (hb : es1.size < scanBound) (hf : t2.fits es1.size = true) (hr : Ris t2.place.toList) (hl : LedM w t2) {dm : Bool} {T : Option Bool → Shared → Prop}
    (hT : ∀ h', Heap.SameBut a s.heap h' → SetM w h' a L → T (some true) { s with heap := h' }) :
    wpAny (model P w) A (do
        storeSet a es1 t2
        if (!dm && t2.tooFull) = true then do
            g (relayAll t2 es1 (SetTable.grown es1.size)).2.2
            storeSet a (relayAll t2 es1 (SetTable.grown es1.size)).1 (relayAll t2 es1 (SetTable.grown es1.size)).2.1
            pure (some true)
          else pure (some true)) T E s := by
  have so := store_at (es' := es1) (t' := t2) ho hd
  have sb := Heap.SameBut.update s.heap a (Obj.putSet es1 t2)
  refine wpAny_bind (wpAny_storeSet_of ho hd ?_ (fits_of_scanBound hb))
  split
  · have c1 := relayAll_perm t2 es1 (SetTable.grown es1.size)
    have c2 := relayAll_fits t2 es1 (SetTable.grown es1.size)
    have c3 := relayAll_ris t2 es1 (SetTable.grown es1.size)
    have c4 := relayAll_led t2 es1 (SetTable.grown es1.size)
    generalize relayAll t2 es1 (SetTable.grown es1.size) = Z at c1 c2 c3 c4 ⊢
    obtain ⟨es2, t3, gave⟩ := Z
    dsimp only at c1 c2 c3 c4 ⊢
    have hs : es2.size = es1.size := by rw [← Array.length_toList, c1.length_eq, Array.length_toList]
    refine wpAny_bind (hg _ _ _ ?_)
    refine wpAny_bind (wpAny_storeSet_of so rfl ?_ (fits_of_scanBound (by rw [hs]; exact hb)))
    obtain ⟨k2, p2, e2⟩ := each_perm c1 e1
    refine wpAny_pure (hT _ (sb.trans (Heap.SameBut.update _ a _)) ⟨_, es2, _, t3, k2, store_at (es' := es2) (t' := t3) so rfl, hex, rfl, p2.trans p1, e2, nd, by rw [hs]; exact hb, c2, c3, ?_⟩)
    rcases hl with z | z
    · exact .inl z
    · exact .inr (c4.trans z)
  · exact wpAny_pure (hT _ sb ⟨_, es1, _, t2, ks, so, hex, rfl, p1, e1, nd, hb, hf, hr, hl⟩)
def hasK (L : List Key) (k : Key) : Bool := L.any fun j => decide (j = k)
theorem hasK_iff {L : List Key} {k : Key} : hasK L k = true ↔ k ∈ L := by
  unfold hasK
  rw [List.any_eq_true]
  exact ⟨fun ⟨j, h, e⟩ => of_decide_eq_true e ▸ h, fun h => ⟨k, h, decide_eq_true rfl⟩⟩
def addK (L : List Key) (k : Key) : List Key := if hasK L k = true then L else L ++ [k]
theorem addM_hashed {k : Key} {x : Value} {Q : Bool → Shared → Prop} (hk : keyIs k x = true) (m : SetM w s.heap a L) (room : L.length + 1 < scanBound)
    (hQ : ∀ (b : Bool) h', Heap.SameBut a s.heap h' → SetM w h' a (addK L k) → Q b { s with heap := h' }) : wpAny (model P w) A (setAddHashed a x ((mixKind P w).hash k)) Q E s := by
  obtain ⟨o, es, ep, t, ks, ho, hex, hd, pm, he, nd, hb, hf, hr, hl⟩ := m
  have hkey : (mixKind P w).is k x = true := hk
  have hsc := keyIs_scan hk
  have hel : ElemsOf (mixKind P w) es.toList := entM_elems he
  have hlen : es.size = L.length := by rw [← Array.length_toList, he.length, pm.length_eq]
  unfold setAddHashed setAddHashedIn
  refine wpAny_holding (wpAny_bind (wpAny_setState_of ho hd hf ?_))
  dsimp only
  rw [byScan_of hsc hb hel]
  simp only [↓reduceIte]
  unfold setAddByScan
  refine wpAny_bind ?_
  refine wpAny_bind (wpAny_rule ?_)
  refine wpAny_bind (wpAny_setScan_of hkey ho hd hf hel ?_)
  cases hfi : List.findIdx? (fun e => (mixKind P w).is k e.2) es.toList with
  | some j =>
    dsimp only
    obtain ⟨hj, pj, _⟩ := List.findIdx?_eq_some_iff_getElem.mp hfi
    obtain ⟨k', hk', q⟩ := each_mem1 he _ (List.getElem_mem hj)
    have ek : k = k' := (mixKind P w).inj _ _ _ pj q.1
    have hm : k ∈ L := pm.mem_iff.mp (ek ▸ hk')
    refine wpAny_pure (wpAny_pure ?_)
    exact hQ _ s.heap (Heap.SameBut.refl a s.heap) (by
      unfold addK
      rw [if_pos (hasK_iff.mpr hm)]
      exact ⟨o, es, ep, t, ks, ho, hex, hd, pm, he, nd, hb, hf, hr, hl⟩)
  | none =>
    dsimp only
    have hn : k ∉ L := fun z => by
      obtain ⟨e, hm, q⟩ := each_mem2 he k (pm.mem_iff.mpr z)
      have c := List.findIdx?_eq_none_iff.mp hfi e hm
      have c' : (mixKind P w).is k e.2 = true := q.1
      rw [c'] at c
      cases c
    have hgw : ∀ (b : Bool) {s₁ : Shared} {Q' : Unit → Shared → Prop}, Q' () s₁ → wpAny (model P w) A (match b with | true => rule "set.scan.the-table-gave-way" | false => pure ()) Q' E s₁ :=
      fun b s₁ Q' q => by cases b <;> first | exact wpAny_pure q | exact wpAny_rule q
    have pn := layNew_perm t es ((mixKind P w).hash k) x
    have hf1 := layNew_fits t es ((mixKind P w).hash k) x
    have hr1 := layNew_ris t es ((mixKind P w).hash k) x hr
    have hl1 := layNew_led t es ((mixKind P w).hash k) x
    generalize layNew t es ((mixKind P w).hash k) x = Z at pn hf1 hr1 hl1 ⊢
    obtain ⟨es1, t1, dm, gave⟩ := Z
    dsimp only at pn hf1 hr1 hl1 ⊢
    rw [Array.toList_push] at pn
    have pc : es1.toList.Perm (((mixKind P w).hash k, x) :: es.toList) := pn.trans (List.perm_append_singleton _ _)
    obtain ⟨k1, q1, e1⟩ := each_perm pc (PySem.W.EachIs.cons (R := EntM w) (b := k) ⟨hk, rfl⟩ he)
    have pL : k1.Perm (L ++ [k]) := q1.trans ((pm.cons k).trans (List.perm_append_singleton _ _).symm)
    have nd1 : (L ++ [k]).Nodup := (List.perm_append_singleton _ _).nodup_iff.mpr (List.nodup_cons.mpr ⟨hn, nd⟩)
    have hb1 : es1.size < scanBound := by rw [← Array.length_toList, pc.length_eq, List.length_cons, Array.length_toList, hlen]; exact room
    have hled : LedM w t1 := by
      rcases hl with z | z
      · exact .inl z
      · exact .inr (hl1.trans z)
    have fin : ∀ h', Heap.SameBut a s.heap h' → SetM w h' a (L ++ [k]) → Q true { s with heap := h' } := fun h' sb r => hQ _ h' sb (by
      unfold addK
      rw [if_neg (fun z => hn (hasK_iff.mp z))]
      exact r)
    refine wpAny_bind (hgw _ ?_)
    split
    · refine wpAny_bind ?_
      rw [hashByValue_scannable 8 hsc]
      refine wpAny_pure ?_
      refine addM_tail ?_ ho hex hd e1 pL nd1 hb1 ?_ ?_ ?_ ?_
      · intro b s₁ Q' q
        cases b <;> first | exact wpAny_pure q | exact wpAny_rule q
      · first | (split <;> first | exact hf1 | exact SetTable.fits_plain_off hf1) | exact hf1
      · first | (split <;> exact hr1) | exact hr1
      · first | (split <;> exact hled) | exact hled
      · intro h' sb r
        dsimp only
        exact wpAny_pure (fin h' sb r)
    · refine wpAny_bind (wpAny_pure ?_)
      simp only [↓reduceIte]
      refine addM_tail ?_ ho hex hd e1 pL nd1 hb1 hf1 hr1 hled ?_
      · intro b s₁ Q' q
        cases b <;> first | exact wpAny_pure q | exact wpAny_rule q
      · intro h' sb r
        dsimp only
        exact wpAny_pure (fin h' sb r)
/-- the keys once each, in the order in which they come first -/
def onceK (ks : List Key) : List Key := ks.foldl addK []
theorem addK_len (L : List Key) (k : Key) : (addK L k).length ≤ L.length + 1 := by
  unfold addK
  split
  · omega
  · simp
theorem onceK_snoc (ks : List Key) (k : Key) : onceK (ks ++ [k]) = addK (onceK ks) k := by
  unfold onceK
  rw [List.foldl_append]
  rfl
theorem onceK_take {ks : List Key} {i : Nat} {k : Key} (h : ks[i]? = some k) : onceK (ks.take (i + 1)) = addK (onceK (ks.take i)) k := by
  rw [List.take_add_one, h]
  exact onceK_snoc _ _
theorem onceK_len (ks : List Key) : (onceK ks).length ≤ ks.length := by
  have key : ∀ (ks L : List Key), (ks.foldl addK L).length ≤ L.length + ks.length := fun ks => by
    induction ks with
    | nil => exact fun L => Nat.le_refl _
    | cons k ks ih =>
      intro L
      have a := ih (addK L k)
      have b := addK_len L k
      show (ks.foldl addK (addK L k)).length ≤ L.length + (ks.length + 1)
      omega
  have z := key ks []
  simpa [onceK] using z
theorem set_update_keys {I : Addr} {fp wr : List Addr} {G : Array GenState → Array GenState → Prop} {n : Nat} {Pv : Nat → Value → Prop} {St : Nat → Shared → Prop} {T : Result → Shared → Prop}
    (W : WalksS P w A.in1 I fp wr G n Pv St) (S : Addr) (hSf : S ∉ fp) (ks : List Key) (hn : n = ks.length) (hb : ks.length + 1 < scanBound) (hval : ∀ i v, Pv i v → ∃ k, ks[i]? = some k ∧ keyIs k v = true) :
    ∀ (j i : Nat) (s : Shared), n - i = j → i ≤ n → St i s → SetM w s.heap S (onceK (ks.take i)) →
      (∀ s', Moved (S :: wr) G s s' → SetM w s'.heap S (onceK ks) → T (.ok (.ret .none)) s') → codeAny (model P w) A (.builtin "set.update.loop" ⟨[.ref S, .ref I], []⟩) T s := by
  have hSw : S ∉ wr := fun h => hSf (W.sub _ h)
  have hsub : ∀ b ∈ wr, b ∈ S :: wr := fun b hb => List.mem_cons_of_mem _ hb
  intro j
  induction j with
  | zero =>
    intro i s hj hi hst m hT
    have e : i = n := by omega
    subst e
    refine codeAny_builtin F.entry_set_update_loop ?_
    rw [Around.under_plainId F.plain_set_update_loop _]
    show wpAny _ A.in1 (pyNext (.ref I) >>= _) _ _ s
    refine wpAny_bind (W.done s _ _ hst fun s' hm => ?_)
    rw [List.take_of_length_le (by omega)] at m
    exact wpAny_pure (hT s' (hm.mono hsub) (m.at fun o e => hm.heap S o hSw e))
  | succ j ih =>
    intro i s hj hi hst m hT
    refine codeAny_builtin F.entry_set_update_loop ?_
    rw [Around.under_plainId F.plain_set_update_loop _]
    show wpAny _ A.in1 (pyNext (.ref I) >>= _) _ _ s
    refine wpAny_bind (W.item i s _ _ (by omega) hst fun v s' hP hst' hm => ?_)
    obtain ⟨k, hk, hv⟩ := hval i v hP
    show wpAny _ A.in1 (holding [v] (setAdd S v) >>= _) _ _ s'
    refine wpAny_bind (wpAny_holding ?_)
    unfold setAdd
    refine wpAny_holding ?_
    refine wpAny_bind ((mixKind P w).pyHash (k := k) hv ?_)
    have room : (onceK (ks.take i)).length + 1 < scanBound := by
      have z := onceK_len (ks.take i)
      rw [List.length_take] at z
      omega
    refine addM_hashed (s := { s' with toks := s'.toks + 1 }) hv (m.at fun o e => hm.heap S o hSw e) room fun b h' sb m2 => ?_
    rw [← onceK_take hk] at m2
    refine wpAny_pure ⟨plainId_quiet F.plain_set_update_loop _, ih (i + 1) _ (by omega) (by omega) (W.frame _ s' _ _ hst' (Nat.le_succ _) fun b hb o e => ?_) m2 fun s'' hm'' m3 => ?_⟩
    · rw [sb.2 b (fun h : b = S => hSf (h ▸ hb))]
      exact e
    · refine hT s'' (Moved.trans W.gtrans ((hm.mono hsub).then_heap (Nat.le_succ _) fun b o hb e => ?_) hm'') m3
      rw [sb.2 b (fun h : b = S => hb (by rw [h]; exact List.mem_cons_self))]
      exact e
end
end R

set_option Elab.async false
set_option linter.all false
set_option maxRecDepth 100000
set_option maxHeartbeats 4000000
/-! R15: set(xs), len(set(xs)), sorted(set(xs)) -/
namespace R
open PySem PySem.Spec PySem.Calls PyProof.Rows L2
section
variable {P : Program} {w : World} {A : Around} {E : Value → Shared → Prop} {s : Shared}

set_option maxHeartbeats 3200000 in
theorem call_set_list {l : Addr} {items : Array Value} (ks : List Key) {Q : Value → Shared → Prop} (hh : A.handled = none) (hl : s.heap.IsList l items) (hn : items.size = ks.length) (hit : ∀ (i : Nat) (v : Value), items[i]? = some v → ∃ k, ks[i]? = some k ∧ keyIs k v = true) (hb : ks.length + 1 < scanBound)
    (h : ∀ (h' : Heap) (tk : Nat), SetM w h' s.heap.objs.size (onceK ks) → (∀ b o, s.heap.get? b = some o → h'.get? b = some o) → Q (.ref s.heap.objs.size) { s with heap := h', toks := tk }) :
    wpAny (model P w) A (call (.type "set") [.ref l]) Q E s := by
  obtain ⟨c, tl, hmro⟩ := F.called_set.mro
  have hmade := F.called_set.made
  have hsub := F.called_set.sub
  refine wpAny_call (codeAny_of_tree ?_)
  show wpAny _ _ (callAny (.type "set") _) _ _ _
  refine wpAny_pure ⟨Code.quiet_builtin _ (by decide +kernel), codeAny_builtin F.entry_type_call ?_⟩
  rw [Around.under_plain (weight_type_call_type "set" [.ref l] []) rfl]
  have h1 := F.called_set.notType
  have h2 := F.called_set.canCreate
  have hct := F.typeCall_set_1 (.ref l)
  repeat (any_goals (first | assumption | wp_step))
  refine codeAny_mono (code_set_led1 (.ref l) (E := E) (Q₁ := fun obj s₁ => obj = .ref s.heap.objs.size ∧ s₁ = { s with heap := s.heap.push { cls := .type "set", dict := none, data := .set #[] 0 (.fresh 0 0 (!w.params.followText "set-order")) } }) ⟨rfl, rfl⟩) fun r s₁ hr => ?_
  cases r with
  | error e => exact hr
  | ok fl =>
    cases fl with
    | ret obj =>
      obtain ⟨rfl, rfl⟩ := hr
      have hS : (s.heap.push { cls := .type "set", dict := none, data := .set #[] 0 (.fresh 0 0 (!w.params.followText "set-order")) }).get? s.heap.objs.size = some { cls := .type "set", dict := none, data := .set #[] 0 (.fresh 0 0 (!w.params.followText "set-order")) } := Heap.get?_push_size _ rfl
      have hT : Shared.TypeIs { s with heap := s.heap.push { cls := .type "set", dict := none, data := .set #[] 0 (.fresh 0 0 (!w.params.followText "set-order")) } } (.ref s.heap.objs.size) "set" := ⟨_, hS, rfl⟩
      have hli := F.called_set.init.lookup
      have hbi := F.called_set.init.bind (.ref s.heap.objs.size)
      repeat (any_goals (first | assumption | wp_step))
      refine codeAny_mono (codeAny_call_builtin (R := wants (fun r s₂ => r = .none ∧ ∃ h' tk, s₂ = { s with heap := h', toks := tk } ∧ SetM w h' s.heap.objs.size (onceK ks) ∧
          (∀ b o, s.heap.get? b = some o → h'.get? b = some o)) E) F.called_set.init.plain F.entry_set_init (check_set_init_1 hT ?_)) fun r₂ s₂ hr₂ => ?_
      · obtain ⟨⟨ocls, odict, odata, oslots⟩, hol, hcl, nl, hdl⟩ := hl
        simp only at hcl hdl
        subst hcl
        subst hdl
        have hol' : (s.heap.push { cls := .type "set", dict := none, data := .set #[] 0 (.fresh 0 0 (!w.params.followText "set-order")) }).get? l = some { cls := .type "list", dict := odict, data := .seq items nl, slots := oslots } := Heap.get?_push_of_some _ hol
        have hsls := F.sub_list_set
        have hslf := F.sub_list_frozenset
        have hne : (Value.type "list" == Value.type "dict") = false := by decide
        have hl1 : (s.heap.push { cls := .type "set", dict := none, data := .set #[] 0 (.fresh 0 0 (!w.params.followText "set-order")) }).IsList l items := ⟨_, hol', rfl, nl, rfl⟩
        unfold Builtin.«set.__init__» noKeywords Builtin.Frozenset.updateFrom
        generalize hPI : pyIter = PI
        wp_walk
        subst hPI
        refine wpAny_pyIter_list hl1 ?_
        refine wpAny_bind (wpAny_runValue ?_)
        have hlS : l < s.heap.objs.size := Heap.lt_size hol
        have hh3 : A.in1.in1.in1.handled = none := by simp [hh]
        have hneI : l ≠ (s.heap.push { cls := .type "set", dict := none, data := .set #[] 0 (.fresh 0 0 (!w.params.followText "set-order")) }).objs.size := by
          rw [Heap.size_push]
          exact Nat.ne_of_lt (Nat.lt_succ_of_lt hlS)
        have hSf : s.heap.objs.size ∉ [(s.heap.push { cls := .type "set", dict := none, data := .set #[] 0 (.fresh 0 0 (!w.params.followText "set-order")) }).objs.size, l] := by
          rw [Heap.size_push]
          simp only [List.mem_cons, List.not_mem_nil, or_false, not_or]
          exact ⟨Nat.ne_of_lt (Nat.lt_succ_self _), Nat.ne_of_gt hlS⟩
        refine set_update_keys ((Walks.list hh3 _ l hneI items).toS) s.heap.objs.size hSf ks hn hb hit (items.size - 0) 0 _ (by omega) (Nat.zero_le _) ⟨⟨_, Heap.get?_push_size _ rfl, rfl, rfl⟩, (hl1.push _)⟩ ?hS0 ?hR
        case hS0 =>
          exact SetM.new (Heap.get?_push_of_some _ hS)
        case hR =>
          intro s' hm hS'
          obtain ⟨h', g2, d', tk', os'⟩ := s'
          have eg : g2 = s.gens := hm.gens
          have ed : d' = s.drawn := hm.drawn
          have eo : os' = s.os := hm.os
          subst eg
          subst ed
          subst eo
          show wpAny _ _ _ _ _ _
          refine wpAny_pure ?_
          show wpAny _ _ (ret Value.none) _ _ _
          refine wpAny_pure ⟨rfl, h', tk', rfl, hS', fun b o e => ?_⟩
          have hb0 : b < s.heap.objs.size := Heap.lt_size e
          have hb2 : b ≠ (s.heap.push { cls := .type "set", dict := none, data := .set #[] 0 (.fresh 0 0 (!w.params.followText "set-order")) }).objs.size := by
            rw [Heap.size_push]
            exact Nat.ne_of_lt (Nat.lt_succ_of_lt hb0)
          exact hm.heap b o (by simp only [List.mem_cons, List.not_mem_nil, or_false, not_or]; exact ⟨Nat.ne_of_lt hb0, hb2⟩) (Heap.get?_push_of_some _ (Heap.get?_push_of_some _ e))
      · cases r₂ with
        | error e => exact hr₂
        | ok fl₂ =>
          cases fl₂ with
          | ret r =>
            obtain ⟨rfl, h', tk, rfl, hS', hk'⟩ := hr₂
            repeat (any_goals (first | assumption | wp_step))
            exact h _ _ hS' hk'
          | _ => exact hr₂.elim
    | _ => exact hr.elim

set_option maxHeartbeats 3200000 in
theorem call_set_tuple {l : Addr} {items : Array Value} (ks : List Key) {Q : Value → Shared → Prop} (hh : A.handled = none) (hl : s.heap.IsTuple l items) (hn : items.size = ks.length) (hit : ∀ (i : Nat) (v : Value), items[i]? = some v → ∃ k, ks[i]? = some k ∧ keyIs k v = true) (hb : ks.length + 1 < scanBound)
    (h : ∀ (h' : Heap) (tk : Nat), SetM w h' s.heap.objs.size (onceK ks) → (∀ b o, s.heap.get? b = some o → h'.get? b = some o) → Q (.ref s.heap.objs.size) { s with heap := h', toks := tk }) :
    wpAny (model P w) A (call (.type "set") [.ref l]) Q E s := by
  obtain ⟨c, tl, hmro⟩ := F.called_set.mro
  have hmade := F.called_set.made
  have hsub := F.called_set.sub
  refine wpAny_call (codeAny_of_tree ?_)
  show wpAny _ _ (callAny (.type "set") _) _ _ _
  refine wpAny_pure ⟨Code.quiet_builtin _ (by decide +kernel), codeAny_builtin F.entry_type_call ?_⟩
  rw [Around.under_plain (weight_type_call_type "set" [.ref l] []) rfl]
  have h1 := F.called_set.notType
  have h2 := F.called_set.canCreate
  have hct := F.typeCall_set_1 (.ref l)
  repeat (any_goals (first | assumption | wp_step))
  refine codeAny_mono (code_set_led1 (.ref l) (E := E) (Q₁ := fun obj s₁ => obj = .ref s.heap.objs.size ∧ s₁ = { s with heap := s.heap.push { cls := .type "set", dict := none, data := .set #[] 0 (.fresh 0 0 (!w.params.followText "set-order")) } }) ⟨rfl, rfl⟩) fun r s₁ hr => ?_
  cases r with
  | error e => exact hr
  | ok fl =>
    cases fl with
    | ret obj =>
      obtain ⟨rfl, rfl⟩ := hr
      have hS : (s.heap.push { cls := .type "set", dict := none, data := .set #[] 0 (.fresh 0 0 (!w.params.followText "set-order")) }).get? s.heap.objs.size = some { cls := .type "set", dict := none, data := .set #[] 0 (.fresh 0 0 (!w.params.followText "set-order")) } := Heap.get?_push_size _ rfl
      have hT : Shared.TypeIs { s with heap := s.heap.push { cls := .type "set", dict := none, data := .set #[] 0 (.fresh 0 0 (!w.params.followText "set-order")) } } (.ref s.heap.objs.size) "set" := ⟨_, hS, rfl⟩
      have hli := F.called_set.init.lookup
      have hbi := F.called_set.init.bind (.ref s.heap.objs.size)
      repeat (any_goals (first | assumption | wp_step))
      refine codeAny_mono (codeAny_call_builtin (R := wants (fun r s₂ => r = .none ∧ ∃ h' tk, s₂ = { s with heap := h', toks := tk } ∧ SetM w h' s.heap.objs.size (onceK ks) ∧
          (∀ b o, s.heap.get? b = some o → h'.get? b = some o)) E) F.called_set.init.plain F.entry_set_init (check_set_init_1 hT ?_)) fun r₂ s₂ hr₂ => ?_
      · obtain ⟨⟨ocls, odict, odata, oslots⟩, hol, hcl, nl, hdl⟩ := hl
        simp only at hcl hdl
        subst hcl
        subst hdl
        have hol' : (s.heap.push { cls := .type "set", dict := none, data := .set #[] 0 (.fresh 0 0 (!w.params.followText "set-order")) }).get? l = some { cls := .type "tuple", dict := odict, data := .seq items nl, slots := oslots } := Heap.get?_push_of_some _ hol
        have hsls := F.sub_tuple_set
        have hslf := F.sub_tuple_frozenset
        have hne : (Value.type "tuple" == Value.type "dict") = false := by decide
        have hl1 : (s.heap.push { cls := .type "set", dict := none, data := .set #[] 0 (.fresh 0 0 (!w.params.followText "set-order")) }).IsTuple l items := ⟨_, hol', rfl, nl, rfl⟩
        unfold Builtin.«set.__init__» noKeywords Builtin.Frozenset.updateFrom
        generalize hPI : pyIter = PI
        wp_walk
        subst hPI
        refine wpAny_pyIter_tuple hl1 ?_
        refine wpAny_bind (wpAny_runValue ?_)
        have hlS : l < s.heap.objs.size := Heap.lt_size hol
        have hh3 : A.in1.in1.in1.handled = none := by simp [hh]
        have hneI : l ≠ (s.heap.push { cls := .type "set", dict := none, data := .set #[] 0 (.fresh 0 0 (!w.params.followText "set-order")) }).objs.size := by
          rw [Heap.size_push]
          exact Nat.ne_of_lt (Nat.lt_succ_of_lt hlS)
        have hSf : s.heap.objs.size ∉ [(s.heap.push { cls := .type "set", dict := none, data := .set #[] 0 (.fresh 0 0 (!w.params.followText "set-order")) }).objs.size, l] := by
          rw [Heap.size_push]
          simp only [List.mem_cons, List.not_mem_nil, or_false, not_or]
          exact ⟨Nat.ne_of_lt (Nat.lt_succ_self _), Nat.ne_of_gt hlS⟩
        refine set_update_keys ((Walks.tuple hh3 _ l hneI items).toS) s.heap.objs.size hSf ks hn hb hit (items.size - 0) 0 _ (by omega) (Nat.zero_le _) ⟨⟨_, Heap.get?_push_size _ rfl, rfl, rfl⟩, (hl1.push _)⟩ ?hS0 ?hR
        case hS0 =>
          exact SetM.new (Heap.get?_push_of_some _ hS)
        case hR =>
          intro s' hm hS'
          obtain ⟨h', g2, d', tk', os'⟩ := s'
          have eg : g2 = s.gens := hm.gens
          have ed : d' = s.drawn := hm.drawn
          have eo : os' = s.os := hm.os
          subst eg
          subst ed
          subst eo
          show wpAny _ _ _ _ _ _
          refine wpAny_pure ?_
          show wpAny _ _ (ret Value.none) _ _ _
          refine wpAny_pure ⟨rfl, h', tk', rfl, hS', fun b o e => ?_⟩
          have hb0 : b < s.heap.objs.size := Heap.lt_size e
          have hb2 : b ≠ (s.heap.push { cls := .type "set", dict := none, data := .set #[] 0 (.fresh 0 0 (!w.params.followText "set-order")) }).objs.size := by
            rw [Heap.size_push]
            exact Nat.ne_of_lt (Nat.lt_succ_of_lt hb0)
          exact hm.heap b o (by simp only [List.mem_cons, List.not_mem_nil, or_false, not_or]; exact ⟨Nat.ne_of_lt hb0, hb2⟩) (Heap.get?_push_of_some _ (Heap.get?_push_of_some _ e))
      · cases r₂ with
        | error e => exact hr₂
        | ok fl₂ =>
          cases fl₂ with
          | ret r =>
            obtain ⟨rfl, h', tk, rfl, hS', hk'⟩ := hr₂
            repeat (any_goals (first | assumption | wp_step))
            exact h _ _ hS' hk'
          | _ => exact hr₂.elim
    | _ => exact hr.elim
end
end R

set_option Elab.async false
set_option linter.all false
set_option maxRecDepth 100000
set_option maxHeartbeats 4000000
/-! R16: len(set(xs)), sorted(set(xs)) -/
namespace R
open PySem PySem.Spec PySem.Calls PyProof.Rows L2
def addO {α : Type} [DecidableEq α] (L : List α) (k : α) : List α := if k ∈ L then L else L ++ [k]
/-- each once, in the order in which they come first -/
def once {α : Type} [DecidableEq α] (ks : List α) : List α := ks.foldl addO []
theorem once_map {α : Type} [DecidableEq α] {f : α → Key} (inj : ∀ a b, f a = f b → a = b) (ks : List α) : onceK (ks.map f) = (once ks).map f := by
  have key : ∀ (ks : List α) (L : List α), (ks.map f).foldl addK (L.map f) = (ks.foldl addO L).map f := fun ks => by
    induction ks with
    | nil => exact fun L => rfl
    | cons k ks ih =>
      intro L
      show (ks.map f).foldl addK (addK (L.map f) (f k)) = (ks.foldl addO (addO L k)).map f
      rw [← ih]
      congr 1
      unfold addK addO
      by_cases h : k ∈ L
      · rw [if_pos h, if_pos (hasK_iff.mpr (List.mem_map.mpr ⟨k, h, rfl⟩))]
      · rw [if_neg h, if_neg (fun z => h ?_), List.map_append]
        · rfl
        · obtain ⟨j, hj, e⟩ := List.mem_map.mp (hasK_iff.mp z)
          exact inj _ _ e ▸ hj
  exact key ks []
abbrev leI (a b : Int) : Bool := decide (a ≤ b)
abbrev leS (a b : Str) : Bool := decide (a.cps.toList ≤ b.cps.toList)
theorem str_inj {x y : Str} (h : x.cps.toList = y.cps.toList) : x = y := by
  have hc : x.cps = y.cps := Array.toList_inj.mp h
  cases x
  cases y
  cases hc
  rfl
theorem sort_same {α : Type} {le : α → α → Bool} (tr : ∀ a b c, le a b = true → le b c = true → le a c = true) (to : ∀ a b, (le a b || le b a) = true) (an : ∀ a b, le a b = true → le b a = true → a = b) {l l' : List α} (p : l.Perm l') : l.mergeSort le = l'.mergeSort le := by
  refine List.Perm.eq_of_pairwise (le := fun a b => le a b = true) (fun a b _ _ h1 h2 => an a b h1 h2) (List.pairwise_mergeSort tr to l) (List.pairwise_mergeSort tr to l') ?_
  exact (List.mergeSort_perm l le).trans (p.trans (List.mergeSort_perm l' le).symm)
theorem sortI_same {l l' : List Int} (p : l.Perm l') : l.mergeSort leI = l'.mergeSort leI :=
  sort_same (le := leI) (fun a b c h1 h2 => decide_eq_true (Int.le_trans (of_decide_eq_true h1) (of_decide_eq_true h2))) (fun a b => by simp only [leI, Bool.or_eq_true, decide_eq_true_eq]; omega) (fun a b h1 h2 => Int.le_antisymm (of_decide_eq_true h1) (of_decide_eq_true h2)) p
theorem sortS_same {l l' : List Str} (p : l.Perm l') : l.mergeSort leS = l'.mergeSort leS :=
  sort_same (le := leS) (fun a b c h1 h2 => decide_eq_true (List.le_trans (of_decide_eq_true h1) (of_decide_eq_true h2))) (fun a b => by simp only [leS, Bool.or_eq_true, decide_eq_true_eq]; exact List.le_total _ _) (fun a b h1 h2 => str_inj (List.le_antisymm (of_decide_eq_true h1) (of_decide_eq_true h2))) p
section
variable {P : Program} {w : World} {A : Around} {E : Value → Shared → Prop} {s : Shared}
theorem each_imp {α β : Type} {T U : α → β → Prop} : ∀ {as : List α} {bs : List β}, PySem.W.EachIs T as bs → (∀ a b, T a b → U a b) → PySem.W.EachIs U as bs
  | _, _, .nil, _ => .nil
  | _, _, .cons h t, f => .cons (f _ _ h) (each_imp t f)
theorem each_mapL {α β γ : Type} {T : β → γ → Prop} (f : α → β) : ∀ {as : List α} {bs : List γ}, PySem.W.EachIs (fun a b => T (f a) b) as bs → PySem.W.EachIs T (as.map f) bs
  | _, _, .nil => .nil
  | _, _, .cons h t => .cons h (each_mapL f t)
theorem each_un {α β γ : Type} {T : α → γ → Prop} (f : β → γ) : ∀ {as : List α} {bs : List β}, PySem.W.EachIs T as (bs.map f) → PySem.W.EachIs (fun a b => T a (f b)) as bs
  | [], [], _ => .nil
  | [], _ :: _, h => (by cases h)
  | _ :: _, [], h => (by cases h)
  | _ :: _, _ :: _, h => by
    cases h with
    | cons h t => exact .cons h (each_un f t)
/-- sorted(a set), where its keys are of one kind -/
theorem sorted_setM {β : Type} {a : Addr} {L : List β} {f : β → Key} {enc : β → PyData} {Q : Value → Shared → Prop} (m : SetM w s.heap a (L.map f)) (hh : A.handled = none) (hu : A.units + 70 < cLine)
    (hr : ∀ h v b, keyIs (f b) v = true → ∃ as, Reads h v (enc b) as) (hd0 : ∀ b, (enc b).depth = 0) (hal : ∀ L : List β, PySem.W.AllAlike (L.map enc)) (hso : ∀ L : List β, PySem.W.Sortable (L.map enc))
    (inj : ∀ a b, f a = f b → a = b) (hQ : ∀ s' p (out : List Value) (c : Nat) (L' : List β), (∀ b o, s.heap.get? b = some o → s'.heap.get? b = some o) → s'.gens = s.gens → s'.os = s.os → s.heap.objs.size ≤ p →
      s'.heap.get? p = some (seqObj "list" out.toArray c) → L'.Perm L → PySem.W.EachIs (fun v b => keyIs (f b) v = true) out (L'.mergeSort (PySem.W.dataLe false enc)) → Q (.ref p) s') :
    wpAny (model P w) A (call (.builtin "sorted") [.ref a]) Q E s := by
  obtain ⟨o, es, ep, t, ks, ho, hex, hd, pm, he, nd, hb, hf, hri, hl⟩ := m
  refine call_function_entry kind_sorted plain_sorted entry_sorted (args_sorted1 _) ?_
  unfold Builtin.«sorted»
  refine wpAny_bind (m := checkCount "sorted" 1 1 _) (wpAny_pure ?_)
  refine wpAny_bind (collect_set (A := A.in1) hh ⟨o, ho, hex.1, hd⟩ hf hb hri hl fun s1 vs k1 hz g1 o1 pv => ?_)
  have e1 : PySem.W.EachIs (fun v k => keyIs k v = true) (es.toList.map (·.2)) ks := each_mapL (·.2) (each_imp he fun e k h => h.1)
  obtain ⟨k2, p2, e2⟩ := each_perm pv e1
  have p3 : k2.Perm (L.map f) := p2.trans pm
  obtain ⟨L', pL, rfl⟩ : ∃ L' : List β, L'.Perm L ∧ k2 = L'.map f := by
    have key : ∀ {x y : List Key}, x.Perm y → ∀ L : List β, y = L.map f → ∃ L' : List β, L'.Perm L ∧ x = L'.map f := by
      intro x y p
      induction p with
      | nil =>
        intro L e
        cases L with
        | nil => exact ⟨[], List.Perm.refl _, rfl⟩
        | cons b L => cases e
      | cons x _ ih =>
        intro L e
        cases L with
        | nil => cases e
        | cons b L =>
          rw [List.map_cons, List.cons.injEq] at e
          obtain ⟨L', q, e2⟩ := ih L e.2
          exact ⟨b :: L', q.cons b, by rw [List.map_cons, ← e2, e.1]⟩
      | swap x y l =>
        intro L e
        match L, e with
        | b :: c :: L, e =>
          rw [List.map_cons, List.map_cons, List.cons.injEq, List.cons.injEq] at e
          exact ⟨c :: b :: L, List.Perm.swap .., by rw [List.map_cons, List.map_cons, e.1, e.2.1, e.2.2]⟩
      | trans _ _ ih1 ih2 =>
        intro L e
        obtain ⟨L1, q1, e1⟩ := ih2 L e
        obtain ⟨L2, q2, e2⟩ := ih1 L1 e1
        exact ⟨L2, q2.trans q1, e2⟩
    exact key p3 L rfl
  have e3 := each_un f e2
  have hz0 : vs.length < scanBound := by
    rw [pv.length_eq, List.length_map, Array.length_toList]
    exact hb
  have hz1 : vs.length ≤ sizeLine := fits_of_scanBound hz0
  refine wpAny_bind (wpAny_newList ?_ hz1)
  have hoL : (s1.heap.push (seqObj "list" vs.toArray 0)).get? s1.heap.objs.size = some (seqObj "list" vs.toArray 0) := Heap.get?_push_size _ rfl
  have er : ∀ h : Heap, PySem.W.EachIs (fun v b => ∃ as, Reads h v (enc b) as) vs L' := fun h => each_imp e3 fun v b q => hr h v b q
  refine wpAny_bind (wpAny_holding (wpAny_call_entry slot_list_sort ⟨_, hoL, rfl⟩ entry_list_sort
    (PySem.W.list_sort_vals hoL (PySem.W.SortsAt.data (PySem.W.each_map (R := fun v d => ∃ as, Reads (PySem.W.sortingHeap (s1.heap.push (seqObj "list" vs.toArray 0)) s1.heap.objs.size vs) v d as) enc (er _)) (hal L') (hso L') (PySem.W.bound_map fun b hb => ?_)) hz1 ⟨_, rfl, ?_⟩) (args_list_sort _)))
  · rw [hd0]
    show A.units + 2 + 0 < cLine
    omega
  · obtain ⟨c, hc⟩ := sortedHeap_at (vs := vs) (out := (PySem.W.sortVals (PySem.W.dataKind (PySem.W.sortingHeap (s1.heap.push (seqObj "list" vs.toArray 0)) s1.heap.objs.size vs) (L'.map enc)) false vs vs).toArray) hoL
    refine wpAny_pure ⟨_, rfl, hQ _ s1.heap.objs.size _ c L' (fun b u e => ?_) g1 o1 hz hc pL (PySem.W.sortVals_data (enc := enc) false e3 (er _) (hal L'))⟩
    have q := k1 b u e
    have hlt := Heap.lt_size q
    show (sortedHeap (s1.heap.push (seqObj "list" vs.toArray 0)) s1.heap.objs.size vs _).get? b = some u
    rw [sortedHeap_old (Nat.ne_of_lt hlt) (by rw [size_push']; exact Nat.lt_succ_of_lt hlt)]
    exact Heap.get?_push_of_some _ q
end

/-! ### the expressions -/
section
variable {X : Cx}
/-- set(a) is made; what is asked of it -/
def rSetM (K : PySem.W.Frag) (ask : List Key → Hp → VK → Prop) : V → Hp → VK → Prop := fun x H Q => ∃ (l : Addr) (ks : List Key), x = .ref l ∧ (SqL K H l (ks.map kV) ∨ SqT K H l (ks.map kV)) ∧ ks.length + 1 < scanBound ∧ ask (onceK ks) H Q
theorem vals_keys (P : Program) (w : World) : ∀ {ks : List Key} {us : List Value}, Vals (ks.map kV) us → us.length = ks.length ∧ ∀ (i : Nat) (v : Value), us[i]? = some v → ∃ k, ks[i]? = some k ∧ keyIs k v = true
  | [], _, .nil => ⟨rfl, fun i v h => by simp at h⟩
  | k :: ks, _, .cons r t => by
    obtain ⟨a, b⟩ := vals_keys P w t
    refine ⟨by rw [List.length_cons, List.length_cons, a], fun i v h => ?_⟩
    cases i with
    | zero =>
      rw [List.getElem?_cons_zero] at h
      cases h
      exact ⟨k, by simp, kV_is (P := P) (w := w) r⟩
    | succ i => simpa using b i v (by simpa using h)
theorem pe_ofSet {g : Str} {id : String} {ask : List Key → Hp → VK → Prop} {a : Expr} {ta : TE} {p p2 q pos : Pos} (hc : X.calm = true) (hg : Gl X g) (hm : X.mg g = none) (hv : bootBuiltins g = some (.builtin id)) (hn : g ≠ "__name__") (hdb : (g == ("__debug__" : Str)) = false)
    (hg2 : Gl X "set") (hm2 : X.mg "set" = none) (ha : PE X a ta) (hp : plainE a = true)
    (run : ∀ (L : List Key) (pins : List (Addr × Obj)) (s : Shared) (σ : L2.St) (H : Hp) (b : Addr) (Q : VK), L2.Inv X pins σ H s → SetM X.w s.heap b L → L.length < scanBound → ask L H Q → wpAny (model X.prog X.w) X.A (call (.builtin id) [.ref b]) (L2.EP X pins σ Q) X.xe s) :
    PE X (.Call (.Name g p) [.Call (.Name "set" p2) [a] [] q] [] pos) fun σ H Q => ta σ H fun x H1 => rSetM X.K ask x H1 Q := by
  refine ⟨fun pins s σ H Q I h => ?_⟩
  refine wpAny_Call_Name_kw (ld_blt I hg hm hv ?_ hn hdb)
  refine PyProof.Rows.callWith_builtin1 (PyProof.Rows.args_cons ?_ rfl) rfl rfl
  refine wpAny_Call_Name_kw (ld_blt I hg2 hm2 boot_set ?_)
  refine PyProof.Rows.callWith_type1 (PyProof.Rows.args_cons (thn (ha.run pins s σ H _ I h) fun v s1 ⟨x, H1, I1, r1, q1⟩ => PyProof.Rows.args_nil ?_) (star_cons hp)) (star_cons hp) rfl
  obtain ⟨l, ks, rfl, hq, hb, q1⟩ := q1
  cases r1
  have fin : ∀ (h' : Heap) (tk : Nat), SetM X.w h' s1.heap.objs.size (onceK ks) → (∀ b o, s1.heap.get? b = some o → h'.get? b = some o) →
      wpAny (model X.prog X.w) X.A (spliced (backTo pos (starEach [] X.env))) (fun vs s₂ => wpAny (model X.prog X.w) X.A (call (.builtin id) (Value.ref s1.heap.objs.size :: vs)) (L2.EP X pins σ Q) X.xe s₂) X.xe { s1 with heap := h', toks := tk } := fun h' tk m k => by
    refine PyProof.Rows.args_nil ?_
    have I2 : L2.Inv X pins σ H1 { s1 with heap := h', toks := tk } := I1.kept k
    exact run _ pins _ σ H1 _ Q I2 m (by have := onceK_len ks; omega) q1
  rcases hq with hq | hq
  · obtain ⟨its, r, pl, hz⟩ := I1.list hq
    obtain ⟨e1, e2⟩ := vals_keys X.prog X.w r
    exact call_set_list ks (I1.ok.hd hc) pl.isList (by simpa using e1) (fun i v hv => e2 i v (by simpa using hv)) hb fun h' tk m k => fin h' tk m k
  · obtain ⟨its, r, pl, hz⟩ := I1.tuple hq
    obtain ⟨e1, e2⟩ := vals_keys X.prog X.w r
    exact call_set_tuple ks (I1.ok.hd hc) (show s1.heap.IsTuple l its.toArray from pl) (by simpa using e1) (fun i v hv => e2 i v (by simpa using hv)) hb fun h' tk m k => fin h' tk m k
def askLen (L : List Key) (H : Hp) (Q : VK) : Prop := Q (.int (L.length : Nat)) H
theorem run_len (L : List Key) (pins : List (Addr × Obj)) (s : Shared) (σ : L2.St) (H : Hp) (b : Addr) (Q : VK) (I : L2.Inv X pins σ H s) (m : SetM X.w s.heap b L) (hl : L.length < scanBound) (h : askLen L H Q) : wpAny (model X.prog X.w) X.A (call (.builtin "len") [.ref b]) (L2.EP X pins σ Q) X.xe s := by
  obtain ⟨o, es, ep, t, ks, ho, hex, hd, pm, he, nd, hb, hf, hri, hl2⟩ := m
  have hlen : es.size = L.length := by rw [← Array.length_toList, he.length, pm.length_eq]
  have hfit : (es.size : Int) < 2 ^ 63 := by
    have z : es.size < 4096 := Nat.lt_of_lt_of_le hb (by unfold scanBound; decide)
    have z2 : (4096 : Int) ≤ 2 ^ 63 := by decide
    omega
  exact call_len_set ho hex hd hf hfit ⟨.int (L.length : Nat), H, I.tok _, ⟨_, by rw [hlen]⟩, h⟩
def askSort (L : List Key) (H : Hp) (Q : VK) : Prop := (∃ ns : List Int, L = ns.map Sum.inl ∧ ∀ p, H p = none → Q (.ref p) (upd H p (.lst ((ns.mergeSort leI).map V.int)))) ∨
  (∃ ns : List Str, L = ns.map Sum.inr ∧ ∀ p, H p = none → Q (.ref p) (upd H p (.lst ((ns.mergeSort leS).map V.str))))
theorem run_sort (hc : X.calm = true) (hu : X.A.units + 70 < cLine) (L : List Key) (pins : List (Addr × Obj)) (s : Shared) (σ : L2.St) (H : Hp) (b : Addr) (Q : VK) (I : L2.Inv X pins σ H s) (m : SetM X.w s.heap b L) (hl : L.length < scanBound) (h : askSort L H Q) : wpAny (model X.prog X.w) X.A (call (.builtin "sorted") [.ref b]) (L2.EP X pins σ Q) X.xe s := by
  have fin : ∀ (s' : Shared) (p : Addr) (out : List Value) (c : Nat) (vs : List V), (∀ b o, s.heap.get? b = some o → s'.heap.get? b = some o) → s'.gens = s.gens → s'.os = s.os → s.heap.objs.size ≤ p → s'.heap.get? p = some (seqObj "list" out.toArray c) → Vals vs out → vs.length ≤ sizeLine →
      Q (.ref p) (upd H p (.lst vs)) → L2.EP X pins σ Q (.ref p) s' := fun s' p out c vs k g o hp hg hv hz q => by
    have hn : H p = none := I.hok.fresh hp
    have J : L2.Inv X pins σ (upd H p (.lst vs)) { s with heap := s'.heap, gens := s'.gens, drawn := s'.drawn, toks := s'.toks } :=
      I.call (ch := []) (Un.laid k hp hn) (I.hok.laid k hp ⟨hz, out, c, hv, hg⟩) (by rw [g]; exact I.bare) (fun _ z => nomatch z)
    have e : s' = { s with heap := s'.heap, gens := s'.gens, drawn := s'.drawn, toks := s'.toks } := by
      cases s'
      cases s
      cases o
      rfl
    rw [e]
    exact ⟨.ref p, _, J, rfl, q⟩
  have small : ∀ n : Nat, n < scanBound → n ≤ sizeLine := fun n h => fits_of_scanBound h
  rcases h with ⟨ns, rfl, q⟩ | ⟨ns, rfl, q⟩
  · rw [List.length_map] at hl
    refine sorted_setM (f := Sum.inl) (enc := PyData.int) m (I.ok.hd hc) hu (fun h v b q => ?_) (fun _ => rfl) (fun L => PySem.W.AllAlike.of fun _ _ => rfl) (fun L => PySem.W.Sortable.others fun _ => ⟨nofun, nofun⟩) (fun a b h => Sum.inl.inj h) fun s' p out c L' k g o hp hg pl he => ?_
    · rcases keyIs_shape q with ⟨i, t, e, rfl⟩ | ⟨i, t, e, rfl⟩
      · cases e
        exact ⟨_, .int _ _⟩
      · cases e
    · rw [PySem.W.dataLe_int (fun b : Int => b)] at he
      have es : L'.mergeSort leI = ns.mergeSort leI := sortI_same pl
      have hv : Vals ((ns.mergeSort leI).map V.int) out := by
        have he : PySem.W.EachIs (fun v (b : Int) => keyIs (Sum.inl b) v = true) out (L'.mergeSort leI) := he
        rw [es] at he
        have key : ∀ {out : List Value} {l : List Int}, PySem.W.EachIs (fun v (b : Int) => keyIs (Sum.inl b) v = true) out l → Vals (l.map V.int) out := by
          intro out l h
          induction h with
          | nil => exact .nil
          | cons h _ ih =>
            rcases keyIs_shape h with ⟨i, t, e, rfl⟩ | ⟨i, t, e, rfl⟩
            · cases e
              exact .cons ⟨_, rfl⟩ ih
            · cases e
        exact key he
      exact fin s' p out c _ k g o hp hg hv (by rw [List.length_map, List.length_mergeSort]; exact small _ hl) (q p (I.hok.fresh hp))
  · rw [List.length_map] at hl
    refine sorted_setM (f := Sum.inr) (enc := PyData.str) m (I.ok.hd hc) hu (fun h v b q => ?_) (fun _ => rfl) (fun L => PySem.W.AllAlike.of fun _ _ => rfl) (fun L => PySem.W.Sortable.others fun _ => ⟨nofun, nofun⟩) (fun a b h => Sum.inr.inj h) fun s' p out c L' k g o hp hg pl he => ?_
    · rcases keyIs_shape q with ⟨i, t, e, rfl⟩ | ⟨i, t, e, rfl⟩
      · cases e
      · cases e
        exact ⟨_, .str _ _⟩
    · rw [PySem.W.dataLe_str (fun b : Str => b)] at he
      have es : L'.mergeSort leS = ns.mergeSort leS := sortS_same pl
      have hv : Vals ((ns.mergeSort leS).map V.str) out := by
        have he : PySem.W.EachIs (fun v (b : Str) => keyIs (Sum.inr b) v = true) out (L'.mergeSort leS) := he
        rw [es] at he
        have key : ∀ {out : List Value} {l : List Str}, PySem.W.EachIs (fun v (b : Str) => keyIs (Sum.inr b) v = true) out l → Vals (l.map V.str) out := by
          intro out l h
          induction h with
          | nil => exact .nil
          | cons h _ ih =>
            rcases keyIs_shape h with ⟨i, t, e, rfl⟩ | ⟨i, t, e, rfl⟩
            · cases e
            · cases e
              exact .cons ⟨_, rfl⟩ ih
        exact key he
      exact fin s' p out c _ k g o hp hg hv (by rw [List.length_map, List.length_mergeSort]; exact small _ hl) (q p (I.hok.fresh hp))
end
/-! ### on data -/
def asStrs : List D → Option (List Str)
  | [] => some []
  | .str b :: r => (asStrs r).map fun bs => b :: bs
  | _ :: _ => none
theorem Reps.strs {K : PySem.W.Frag} {G : Hp} {al : List Addr} : ∀ {vs : List V} {ds : List D} {bs : List Str}, Reps K G al vs ds → asStrs ds = some bs → vs = bs.map V.str ∧ ∀ b ∈ bs, PyData.strOk b = true
  | _, _, _, .nil, h => by
    cases h
    exact ⟨rfl, fun b h => (by cases h)⟩
  | _, d :: ds, bs, .cons h r, e => by
    cases h with
    | str x hx =>
      unfold asStrs at e
      obtain ⟨l, e1, rfl⟩ := map_some e
      obtain ⟨a, b⟩ := Reps.strs r e1
      exact ⟨by rw [a]; rfl, fun y hy => by rcases List.mem_cons.mp hy with rfl | hy; exact hx; exact b y hy⟩
    | _ => cases e
def seqOf : D → Option (List D)
  | .tup xs => some xs
  | .lst xs => some xs
  | .scr xs => some xs
  | _ => none
def dLenSet : Op1 := fun d => match seqOf d with
  | some xs => if xs.length + 1 < scanBound then (match asInts xs, asStrs xs with
    | some ns, _ => some (.int ((once ns).length : Nat), false)
    | none, some ns => some (.int ((once ns).length : Nat), false)
    | _, _ => none) else none
  | none => none
def dSortSet : Op1 := fun d => match seqOf d with
  | some xs => if xs.length + 1 < scanBound then (match asInts xs, asStrs xs with
    | some ns, _ => some (.lst (((once ns).mergeSort leI).map .int), true)
    | none, some ns => some (.lst (((once ns).mergeSort leS).map .str), true)
    | _, _ => none) else none
  | none => none
section
variable {K : PySem.W.Frag}
theorem RepP.seq {W : Wd} {M : List MO} {H : Hp} {v : V} {d : D} {xs : List D} (w : Rw K W M H) (r : RepP K W v d) (h : seqOf d = some xs) : ∃ a vs, v = .ref a ∧ (SqL K H a vs ∨ SqT K H a vs) ∧ RepsW K W vs xs := by
  unfold seqOf at h
  split at h
  · cases h
    obtain ⟨a, vs, rfl, h1, r1⟩ := r.tup w
    exact ⟨a, vs, rfl, .inr h1, r1⟩
  · cases h
    obtain ⟨a, vs, rfl, h1, r1⟩ := r.lst w
    exact ⟨a, vs, rfl, .inl (.inl (.inl h1)), r1⟩
  · cases h
    obtain ⟨a, vs, rfl, h1, r1⟩ := r.scr w
    exact ⟨a, vs, rfl, .inl h1, r1⟩
  · cases h
theorem map_kVi (ns : List Int) : (ns.map Sum.inl).map kV = ns.map V.int := by
  rw [List.map_map]
  rfl
theorem map_kVs (ns : List Str) : (ns.map Sum.inr).map kV = ns.map V.str := by
  rw [List.map_map]
  rfl
theorem ok_lenSet : Ok1 K (rSetM K askLen) dLenSet := by
  intro W M H x d res Q w rx h q
  unfold dLenSet at h
  split at h
  · rename_i xs hs
    obtain ⟨a, vs, rfl, hv, r⟩ := rx.seq w hs
    split at h
    · rename_i hl
      split at h
      · rename_i ns hi
        cases h
        have e := Reps.ints r hi
        have e2 := r.length
        subst e
        rw [List.length_map] at e2
        refine ⟨a, ns.map Sum.inl, rfl, by rw [map_kVi]; exact hv, by rw [List.length_map]; omega, ?_⟩
        unfold askLen
        rw [once_map fun a b h => Sum.inl.inj h, List.length_map]
        exact done_int w q
      · rename_i ns _ hi
        cases h
        obtain ⟨e, _⟩ := Reps.strs r hi
        have e2 := r.length
        subst e
        rw [List.length_map] at e2
        refine ⟨a, ns.map Sum.inr, rfl, by rw [map_kVs]; exact hv, by rw [List.length_map]; omega, ?_⟩
        unfold askLen
        rw [once_map fun a b h => Sum.inr.inj h, List.length_map]
        exact done_int w q
      · cases h
    · cases h
  · cases h
theorem once_mem {α : Type} [DecidableEq α] (ks : List α) : ∀ k ∈ once ks, k ∈ ks := by
  have key : ∀ (ks L : List α) (k : α), k ∈ ks.foldl addO L → k ∈ L ∨ k ∈ ks := fun ks => by
    induction ks with
    | nil => exact fun L k h => .inl h
    | cons j ks ih =>
      intro L k h
      rcases ih (addO L j) k h with h | h
      · unfold addO at h
        split at h
        · exact .inl h
        · rcases List.mem_append.mp h with h | h
          · exact .inl h
          · rw [List.mem_singleton] at h
            rw [h]
            exact .inr (List.mem_cons_self ..)
      · exact .inr (List.mem_cons_of_mem _ h)
  intro k h
  rcases key ks [] k h with h | h
  · cases h
  · exact h
theorem Reps.ofInts {G : Hp} {al : List Addr} : ∀ ns : List Int, Reps K G al (ns.map V.int) (ns.map D.int)
  | [] => .nil
  | n :: ns => .cons (.int n) (Reps.ofInts ns)
theorem Reps.ofStrs {G : Hp} {al : List Addr} : ∀ {ns : List Str}, (∀ n ∈ ns, PyData.strOk n = true) → Reps K G al (ns.map V.str) (ns.map D.str)
  | [], _ => .nil
  | n :: ns, h => .cons (.str n (h n (List.mem_cons_self ..))) (Reps.ofStrs fun m hm => h m (List.mem_cons_of_mem _ hm))
theorem ok_sortSet : Ok1 K (rSetM K askSort) dSortSet := by
  intro W M H x d res Q w rx h q
  unfold dSortSet at h
  split at h
  · rename_i xs hs
    obtain ⟨a, vs, rfl, hv, r⟩ := rx.seq w hs
    split at h
    · rename_i hl
      split at h
      · rename_i ns hi
        cases h
        have e := Reps.ints r hi
        have e2 := r.length
        subst e
        rw [List.length_map] at e2
        refine ⟨a, ns.map Sum.inl, rfl, by rw [map_kVi]; exact hv, by rw [List.length_map]; omega, .inl ⟨once ns, once_map (fun a b h => Sum.inl.inj h) ns, fun p hp => ?_⟩⟩
        obtain ⟨w3, r3⟩ := w.newL hp (.lst (Reps.ofInts _))
        exact q _ _ _ (Evo.refl W) w3 r3
      · rename_i ns _ hi
        cases h
        obtain ⟨e, ho⟩ := Reps.strs r hi
        have e2 := r.length
        subst e
        rw [List.length_map] at e2
        refine ⟨a, ns.map Sum.inr, rfl, by rw [map_kVs]; exact hv, by rw [List.length_map]; omega, .inr ⟨once ns, once_map (fun a b h => Sum.inr.inj h) ns, fun p hp => ?_⟩⟩
        obtain ⟨w3, r3⟩ := w.newL hp (.lst (Reps.ofStrs fun n hn => ho n (once_mem ns n (List.mem_mergeSort.mp hn))))
        exact q _ _ _ (Evo.refl W) w3 r3
      · cases h
    · cases h
  · cases h
end
section
variable {X : Cx} {a : Expr} {p p2 q pos : Pos} {f : EP}
theorem pLenSet (hc : X.calm = true) (hg : Gl X "len") (hm : X.mg "len" = none) (hg2 : Gl X "set") (hm2 : X.mg "set" = none) (ha : PE X a (tP X.K f)) (hp : plainE a = true) : PE X (.Call (.Name "len" p) [.Call (.Name "set" p2) [a] [] q] [] pos) (tE X.K (eUn dLenSet f)) :=
  PE.imp (pe_ofSet hc hg hm boot_len (by decide) (by decide) hg2 hm2 ha hp run_len) fun _ _ _ h => tE_un ok_lenSet h
theorem pSortSet (hc : X.calm = true) (hu : X.A.units + 70 < cLine) (hg : Gl X "sorted") (hm : X.mg "sorted" = none) (hg2 : Gl X "set") (hm2 : X.mg "set" = none) (ha : PE X a (tP X.K f)) (hp : plainE a = true) : PE X (.Call (.Name "sorted" p) [.Call (.Name "set" p2) [a] [] q] [] pos) (tE X.K (eUn dSortSet f)) :=
  PE.imp (pe_ofSet hc hg hm (by decide +kernel) (by decide) (by decide) hg2 hm2 ha hp (run_sort hc hu)) fun _ _ _ h => tE_un ok_sortSet h
end
end R

set_option Elab.async false
set_option linter.all false
set_option maxRecDepth 100000
set_option maxHeartbeats 4000000
/-! R17: enumerate and zip of lists and tuples, mixed -/
namespace R
open PySem PySem.Spec PySem.Calls PyProof.Rows L2
/-! a list (true) or a tuple (false) -/
def SqB (K : PySem.W.Frag) : Bool → Hp → Addr → List V → Prop
  | true => SqL K
  | false => SqT K
def ItB : Bool → Heap → Addr → Addr → Nat → Prop
  | true => Heap.IsListIter
  | false => Heap.IsTupleIter
def IsB : Bool → Heap → Addr → Array Value → Prop
  | true => Heap.IsList
  | false => Heap.IsTuple
def itO : Bool → Addr → Obj
  | true, l => { cls := .type "list_iterator", data := .fields #[.ref l, .int 0 0] }
  | false, l => { cls := .type "tuple_iterator", data := .fields #[.ref l, .int 0 0] }
theorem draws_b {P : Program} {w : World} {A : Around} (hh : A.handled = none) (b : Bool) (it l : Addr) (hne : l ≠ it) (items : Array Value) : Draws P w A it [it, l] items.size (fun i v => items[i]? = some v) (fun i h => ItB b h it l i ∧ IsB b h l items) := by
  cases b
  · exact Draws.tuple hh it l hne items
  · exact Draws.list hh it l hne items
theorem begins_b (b : Bool) (l : Addr) (items : Array Value) : Begins (.ref l) (itO b l) fun h => IsB b h l items := by
  cases b
  · exact begins_tuple l items
  · exact begins_list l items
theorem itB_new {b : Bool} {h : Heap} {it l : Addr} (e : h.get? it = some (itO b l)) : ItB b h it l 0 := by
  cases b <;> exact ⟨_, e, rfl, rfl⟩
theorem itB_at {b : Bool} {h h' : Heap} {it l : Addr} {i : Nat} (x : ItB b h it l i) (e : ∀ o, h.get? it = some o → h'.get? it = some o) : ItB b h' it l i := by
  cases b
  · exact Heap.IsTupleIter.at x e
  · exact Heap.IsListIter.at x e
theorem itB_ob {b : Bool} {h : Heap} {it l : Addr} {i : Nat} (x : ItB b h it l i) : ∃ o, h.get? it = some o ∧ ∀ v, o.data ≠ .cell v := by
  cases b
  · obtain ⟨o, e, _, d⟩ := x
    exact ⟨o, e, fun v q => by rw [d] at q; cases q⟩
  · obtain ⟨o, e, _, d⟩ := x
    exact ⟨o, e, fun v q => by rw [d] at q; cases q⟩
section
variable {X : Cx} {pins : List (Addr × Obj)} {σ : L2.St} {H : Hp} {s : Shared}
theorem Inv_b (I : L2.Inv X pins σ H s) {b : Bool} {a : Addr} {xs : List V} (h : SqB X.K b H a xs) : ∃ its, Vals xs its ∧ IsB b s.heap a its.toArray ∧ a < s.heap.objs.size ∧ xs.length ≤ sizeLine := by
  cases b
  · obtain ⟨its, rv, p, hz⟩ := I.tuple h
    have p' : s.heap.IsTuple a its.toArray := p
    obtain ⟨o, ho, _⟩ := id p'
    exact ⟨its, rv, p', Heap.lt_size ho, hz⟩
  · obtain ⟨its, rv, p, hz⟩ := I.list h
    obtain ⟨o, ho, _⟩ := id p.isList
    exact ⟨its, rv, p.isList, Heap.lt_size ho, hz⟩
theorem Inv_binj (I : L2.Inv X pins σ H s) {b : Bool} {a : Addr} {xs ys : List V} (h : SqB X.K b H a xs) (h2 : SqB X.K b H a ys) : xs = ys := by
  cases b
  · exact I.tuple_inj h h2
  · exact I.list_inj h h2
end
/-! ### enumerate -/
def IteB (K : PySem.W.Frag) (b : Bool) (a : Addr) : It :=
  ⟨fun i H => ∃ (xs : List V) (x : V), SqB K b H a xs ∧ xs[i]? = some x, fun i H v H' => ∃ T x, v = .ref T ∧ H T = none ∧ H' = upd H T (.tup [.int (i : Nat), x]) ∧ ∀ xs, SqB K b H a xs → xs[i]? = some x, fun i H => ∃ xs : List V, SqB K b H a xs ∧ xs.length = i⟩
theorem turn_enumB {P : Program} {w : World} {K : PySem.W.Frag} {elts : List Expr} {kk : Nat} {tpos : Pos} (b : Bool) (a e it : Addr) :
    Turn P w K (.Tuple elts kk tpos) (IteB K b a) [e, it] e (fun i h => (∃ old, IsEnum h e it ((i : Nat) : Int) old) ∧ ItB b h it a i ∧ e ≠ it ∧ a ≠ it ∧ e ≠ a) where
  mem := by simp
  obj := fun i h st c hc => by
    obtain ⟨⟨old, he⟩, hi, _⟩ := st
    have e' : c = e ∨ c = it := by simpa using hc
    rcases e' with z | z
    · rw [z]
      exact ⟨_, he, fun v q => nomatch q⟩
    · rw [z]
      exact itB_ob hi
  keep := fun i h h' st k => let ⟨⟨old, he⟩, hi, r⟩ := st; ⟨⟨old, k e (by simp) _ he⟩, itB_at hi fun o q => k it (by simp) o q, r⟩
  item := by
    intro X hP hw hK hc i pins s σ H E I hf st hg
    subst hP hw hK
    obtain ⟨⟨old, he⟩, hit, h1, h2, h3⟩ := st
    obtain ⟨xs, x, hq, hx⟩ := hg
    obtain ⟨its, rv, p, _, hz⟩ := Inv_b I hq
    obtain ⟨u, hu, ru⟩ := rv.get hx
    have hil : i < its.toArray.size := by
      rw [List.size_toArray]
      exact (List.getElem?_eq_some_iff.mp hu).1
    have hel : e < s.heap.objs.size := Heap.lt_size he
    obtain ⟨oi, hoi, _⟩ := itB_ob hit
    have hitl : it < s.heap.objs.size := Heap.lt_size hoi
    have D := draws_b (P := X.prog) (w := X.w) (A := X.A.in1) (I.ok.hd hc) b it a h2 its.toArray
    refine wpAny_pyNext_enum_itemC D he ⟨hit, p⟩ hil h1 (by simp only [List.mem_cons, List.not_mem_nil, or_false, not_or]; exact ⟨h1, h3⟩) fun y h' tk hP ho hst hT hsz hk => ?_
    have ey : y = u := by
      rw [List.getElem?_toArray, hu] at hP
      exact (Option.some.inj hP).symm
    subst ey
    refine ⟨_, rfl, wpAny_letOwnedTupleGo_enum (s := { s with heap := h', toks := tk + 1 }) ho fun h'' he' sb => ?_⟩
    have hT2 : h''.get? s.heap.objs.size = some { cls := .type "tuple", data := .seq #[.int i tk, y] } := (sb.2 _ (Nat.ne_of_gt hel)).trans hT
    have new : ObjOk X.prog X.w (upd H s.heap.objs.size (.tup [.int (i : Nat), x])) h'' s.heap.objs.size (.tup [.int (i : Nat), x]) :=
      ⟨by show 2 ≤ sizeLine; decide, [.int i tk, y], .cons ⟨_, rfl⟩ (.cons ru .nil), ⟨_, hT2, rfl, _, rfl⟩⟩
    have I1 : L2.Inv X pins σ (upd H s.heap.objs.size (.tup [.int (i : Nat), x])) { s with heap := h'', toks := tk + 1 } :=
      I.turnedNew (ch := [e, it]) (fun c ob hb q => (sb.2 c (fun z => hb (by simp [z]))).trans (hk c ob (fun z => hb (by simp [z])) (fun z => hb (by simp [z])) q)) hf (Nat.le_refl _) new
    refine ⟨.ref s.heap.objs.size, _, I1, rfl, ⟨_, x, rfl, I.hok.fresh (Nat.le_refl _), rfl, fun ys hy => by rw [Inv_binj I hy hq]; exact hx⟩, ⟨⟨y, ?_⟩, itB_at hst.1 fun o q => (sb.2 it (Ne.symm h1)).trans q, h1, h2, h3⟩, fun c hc' => ?_⟩
    · have e1 : ((i + 1 : Nat) : Int) = (i : Int) + 1 := by omega
      rw [e1]
      exact he'
    · have hb' : c < s.heap.objs.size := by
        have e' : c = e ∨ c = it := by simpa using hc'
        rcases e' with z | z
        · rw [z]; exact hel
        · rw [z]; exact hitl
      rw [upd_ne (Nat.ne_of_lt hb')]
      exact (hf c hc').1
  done := by
    intro X hP hw hK hc i pins s σ H E I hf st hg
    subst hP hw hK
    obtain ⟨⟨old, he⟩, hit, h1, h2, h3⟩ := st
    obtain ⟨xs, hq, hx⟩ := hg
    obtain ⟨its, rv, p, _, hz⟩ := Inv_b I hq
    have hl := rv.length
    have D := draws_b (P := X.prog) (w := X.w) (A := X.A.in1) (I.ok.hd hc) b it a h2 its.toArray
    have W := WalksT.enumFrom (prog := X.prog) (w := X.w) (A := X.A) 0 D e h1 (by simp only [List.mem_cons, List.not_mem_nil, or_false, not_or]; exact ⟨h1, h3⟩) (by simp)
    have hi : i = its.toArray.size := by rw [List.size_toArray]; omega
    have e0 : (0 : Int) + ((its.toArray.size : Nat) : Int) = ((i : Nat) : Int) := by omega
    refine W.done s _ E ⟨⟨old, by rw [e0]; exact he⟩, by rw [← hi]; exact hit, p⟩ fun h' tk hk => ⟨rfl, I.turnedL (t' := tk) (ch := [e, it]) (fun c o hb q => hk c o hb q) hf⟩
  self := fun A i s Q E st h => let ⟨⟨_, he⟩, _⟩ := st; wpAny_pyIter_enum he h
set_option maxHeartbeats 1000000 in
theorem meets_enum1 {v : Value} {o : Obj} {H : Heap → Prop} (B : Begins v o H) :
    Meets (Builtin.«enumerate.__new__» ⟨[.type "enumerate", v], []⟩) (fun _ R s => H s.heap ∧
      R (.ok (.ret (.ref (s.heap.push o).objs.size))) { s with heap := (s.heap.push o).push { cls := .type "enumerate", data := .fields #[.none, .bool false, .ref s.heap.objs.size, rawInt 0, .none, .none] } }) :=
  .of_wp fun prog w A R s h => by
    obtain ⟨hp, g, d, tk, os⟩ := s
    obtain ⟨h1, h⟩ := h
    have hsub := sub_enumerate
    have q1 : ∀ {A' : Around} {E : Value → Shared → Prop} {Q : Value → Shared → Prop}, Q (.ref hp.objs.size) ⟨hp.push o, g, d, tk, os⟩ → wpAny (model prog w) A' (pyIter v) Q E ⟨hp, g, d, tk, os⟩ :=
      fun q => B.iter prog w _ _ ⟨hp, g, d, tk, os⟩ _ h1 q
    wp_walk using q1
    refine wpAny_stack_any fun st => wpAny_pure ?_
    split
    · rename_i c _ _ _ _ _
      cases (c == Value.type "enumerate")
      · wp_walk using q1
        exact ⟨_, rfl, h⟩
      · wp_walk using q1
        exact ⟨_, rfl, h⟩
    · wp_walk using q1
      exact ⟨_, rfl, h⟩
theorem call_enum1 {P : Program} {w : World} {A : Around} {E : Value → Shared → Prop} {s : Shared} {v : Value} {o : Obj} {H : Heap → Prop} {Q : Value → Shared → Prop} (B : Begins v o H) (h1 : H s.heap)
    (h : ∀ h', IsEnum h' (s.heap.objs.size + 1) s.heap.objs.size 0 .none → h'.get? s.heap.objs.size = some o → (∀ b o, s.heap.get? b = some o → h'.get? b = some o) → Q (.ref (s.heap.objs.size + 1)) { s with heap := h' }) :
    wpAny (model P w) A (call (.type "enumerate") [v]) Q E s := by
  refine callType_new F.called_enumerate (by decide) (F.typeCall_enumerate_1 _) (F.newCall_enumerate_1 _) (fun obj => F.args_object_init_2 obj _) F.entry_enumerate_new (meets_enum1 B) ⟨h1, ?_⟩
  have hz : (s.heap.push o).objs.size = s.heap.objs.size + 1 := Heap.size_push ..
  show _ ∧ _
  rw [hz]
  have he : IsEnum ((s.heap.push o).push { cls := .type "enumerate", data := .fields #[.none, .bool false, .ref s.heap.objs.size, rawInt 0, .none, .none] }) (s.heap.objs.size + 1) s.heap.objs.size 0 .none := by
    have := Heap.get?_push_size (s.heap.push o) (o := { cls := .type "enumerate", data := .fields #[.none, .bool false, .ref s.heap.objs.size, rawInt 0, .none, .none] }) rfl
    rw [hz] at this
    exact this
  exact ⟨⟨_, he, rfl⟩, h _ he (Heap.get?_push_of_some _ (Heap.get?_push_size _ B.free)) fun b o x => Heap.get?_push_of_some _ (Heap.get?_push_of_some _ x)⟩
def iEnumX (K : PySem.W.Frag) (tl : TE) : TI := fun σ H R => tl σ H fun x H1 => ∃ a b xs, x = .ref a ∧ SqB K b H1 a xs ∧ R (IteB K b a) H1
theorem pi_enumX {X : Cx} {e : Expr} {te : TE} {p pos tpos : Pos} {elts : List Expr} {kk : Nat} (hg : Gl X "enumerate") (hm : X.mg "enumerate" = none) (he : PE X e te) (hp : plainE e = true) :
    PI X (.Tuple elts kk tpos) (.Call (.Name "enumerate" p) [e] [] pos) (iEnumX X.K te) := by
  refine ⟨fun pins s σ H R I h => ?_⟩
  refine wpAny_Call_Name_kw (ld_blt I hg hm boot_enumerate (PyProof.Rows.callWith_type1 (PyProof.Rows.args_cons (thn (he.run pins s σ H _ I h) fun v s1 ⟨x, H1, I1, r1, q1⟩ => PyProof.Rows.args_nil ?_) (star_cons hp)) (star_cons hp) rfl))
  obtain ⟨a, b, xs, rfl, hq, q⟩ := q1
  cases r1
  obtain ⟨its, rv, p', hlt, hz⟩ := Inv_b I1 hq
  refine call_enum1 (begins_b b a its.toArray) p' fun h' he' hit hk => wpAny_pyIter_enum he' ?_
  have I2 : L2.Inv X pins σ H1 { s1 with heap := h' } := I1.kept (t' := s1.toks) hk
  refine ⟨s1.heap.objs.size + 1, [s1.heap.objs.size + 1, s1.heap.objs.size], _, _, H1, rfl, I2, turn_enumB b a (s1.heap.objs.size + 1) s1.heap.objs.size, ⟨⟨.none, he'⟩, itB_new hit, Nat.succ_ne_self _, Nat.ne_of_lt hlt, Nat.ne_of_gt (Nat.lt_succ_of_lt hlt)⟩, fun c hb => ?_, q⟩
  have e' : c = s1.heap.objs.size + 1 ∨ c = s1.heap.objs.size := by simpa using hb
  have hle : s1.heap.objs.size ≤ c := by
    rcases e' with z | z
    · rw [z]; exact Nat.le_add_right _ _
    · rw [z]; exact Nat.le_refl _
  exact I1.fpOk hle (I1.hok.fresh hle)
/-! ### zip -/
def ItzB (K : PySem.W.Frag) (b1 b2 : Bool) (a c : Addr) : It :=
  ⟨fun i H => ∃ (xs ys : List V) (x y : V), SqB K b1 H a xs ∧ SqB K b2 H c ys ∧ xs[i]? = some x ∧ ys[i]? = some y,
    fun i H v H' => ∃ T x y, v = .ref T ∧ H T = none ∧ H' = upd H T (.tup [x, y]) ∧ (∀ xs, SqB K b1 H a xs → xs[i]? = some x) ∧ ∀ ys, SqB K b2 H c ys → ys[i]? = some y,
    fun i H => ∃ xs ys : List V, SqB K b1 H a xs ∧ SqB K b2 H c ys ∧ min xs.length ys.length = i⟩
structure ZAp (z TI TO i1 i2 a c : Addr) : Prop where
  sep : ZipSep2 z TI TO i1 i2 [i1, a] [i2, c]
  n1 : a ≠ i1
  n2 : c ≠ i2
theorem turn_zipB {P : Program} {w : World} {K : PySem.W.Frag} {elts : List Expr} {kk : Nat} {tpos : Pos} {b1 b2 : Bool} {a c z TI TO i1 i2 : Addr} (S : ZAp z TI TO i1 i2 a c) :
    Turn P w K (.Tuple elts kk tpos) (ItzB K b1 b2 a c) [z, TI, TO, i1, i2] z (fun i h => IsZip h z TI TO .none ∧ IsTupOf2 h TI (.ref i1) (.ref i2) ∧ (∃ x y, IsTupOf2 h TO x y) ∧ ItB b1 h i1 a i ∧ ItB b2 h i2 c i) where
  mem := by simp
  obj := fun i h st d hd => by
    obtain ⟨hz, hTI, ⟨x, y, hTO⟩, h1, h2⟩ := st
    have e' : d = z ∨ d = TI ∨ d = TO ∨ d = i1 ∨ d = i2 := by simpa using hd
    rcases e' with q | q | q | q | q
    · rw [q]; exact ⟨_, hz, fun v q => nomatch q⟩
    · rw [q]; exact ⟨_, hTI, fun v q => nomatch q⟩
    · rw [q]; exact ⟨_, hTO, fun v q => nomatch q⟩
    · rw [q]; exact itB_ob h1
    · rw [q]; exact itB_ob h2
  keep := fun i h h' st k => by
    obtain ⟨hz, hTI, ⟨x, y, hTO⟩, h1, h2⟩ := st
    exact ⟨k z (by simp) _ hz, k TI (by simp) _ hTI, ⟨x, y, k TO (by simp) _ hTO⟩, itB_at h1 fun o q => k i1 (by simp) o q, itB_at h2 fun o q => k i2 (by simp) o q⟩
  item := by
    intro X hP hw hK hc i pins s σ H E I hf st hg
    subst hP hw hK
    obtain ⟨hz, hTI, ⟨x0, y0, hTO⟩, h1, h2⟩ := st
    obtain ⟨xs, ys, x, y, hqx, hqy, hx, hy⟩ := hg
    obtain ⟨its, rv, p, _, _⟩ := Inv_b I hqx
    obtain ⟨its2, rv2, p2, _, _⟩ := Inv_b I hqy
    obtain ⟨u, hu, ru⟩ := rv.get hx
    obtain ⟨u2, hu2, ru2⟩ := rv2.get hy
    have hzl : z < s.heap.objs.size := Heap.lt_size hz
    have hi1 : i < its.toArray.size := by rw [List.size_toArray]; exact (List.getElem?_eq_some_iff.mp hu).1
    have hi2 : i < its2.toArray.size := by rw [List.size_toArray]; exact (List.getElem?_eq_some_iff.mp hu2).1
    have D1 := draws_b (P := X.prog) (w := X.w) (A := X.A.in1) (I.ok.hd hc) b1 i1 a S.n1 its.toArray
    have D2 := draws_b (P := X.prog) (w := X.w) (A := X.A.in1) (I.ok.hd hc) b2 i2 c S.n2 its2.toArray
    refine wpAny_pyNext_zipD2_item S.sep D1 D2 hz hTI hTO ⟨h1, p⟩ ⟨h2, p2⟩ hi1 hi2 fun y1 y2 h' tk e1 e2 z' TO' st1 st2 hT hsz hk => ?_
    have ey : y1 = u := by
      rw [List.getElem?_toArray, hu] at e1
      exact (Option.some.inj e1).symm
    have ey2 : y2 = u2 := by
      rw [List.getElem?_toArray, hu2] at e2
      exact (Option.some.inj e2).symm
    subst ey ey2
    refine ⟨_, rfl, wpAny_letOwnedTupleGo_zip (s := { s with heap := h', toks := tk }) z' fun h'' z'' sb => ?_⟩
    have hT2 : h''.get? s.heap.objs.size = some { cls := .type "tuple", data := .seq #[y1, y2] } := (sb.2 _ (Nat.ne_of_gt hzl)).trans hT
    have new : ObjOk X.prog X.w (upd H s.heap.objs.size (.tup [x, y])) h'' s.heap.objs.size (.tup [x, y]) :=
      ⟨by show 2 ≤ sizeLine; decide, [y1, y2], .cons ru (.cons ru2 .nil), ⟨_, hT2, rfl, _, rfl⟩⟩
    have I1 : L2.Inv X pins σ (upd H s.heap.objs.size (.tup [x, y])) { s with heap := h'', toks := tk } :=
      I.turnedNew (t' := tk) (ch := [z, TI, TO, i1, i2]) (fun d o hb q => (sb.2 d (fun q' => hb (by simp [q']))).trans (hk d o (fun q' => hb (by simp [q'])) (fun q' => hb (by simp [q'])) (fun q' => hb (by simp [q'])) (fun q' => hb (by simp [q'])) q)) hf (Nat.le_refl _) new
    refine ⟨.ref s.heap.objs.size, _, I1, rfl, ⟨_, x, y, rfl, I.hok.fresh (Nat.le_refl _), rfl, fun l hl => by rw [Inv_binj I hl hqx]; exact hx, fun l hl => by rw [Inv_binj I hl hqy]; exact hy⟩, ⟨z'', ?_, ⟨y1, y2, ?_⟩, ?_, ?_⟩, fun d hcm => ?_⟩
    · exact (sb.2 _ S.sep.TIz).trans (hk _ _ S.sep.TIz S.sep.TITO S.sep.TIi1 S.sep.TIi2 hTI)
    · exact (sb.2 _ S.sep.TOz).trans TO'
    · exact itB_at st1.1 fun o q => (sb.2 _ (Ne.symm S.sep.zi1)).trans q
    · exact itB_at st2.1 fun o q => (sb.2 _ (Ne.symm S.sep.zi2)).trans q
    · have hlt : d < s.heap.objs.size := by
        have e' : d = z ∨ d = TI ∨ d = TO ∨ d = i1 ∨ d = i2 := by simpa using hcm
        rcases e' with q | q | q | q | q
        · rw [q]; exact hzl
        · rw [q]; exact Heap.lt_size hTI
        · rw [q]; exact Heap.lt_size hTO
        · rw [q]; obtain ⟨_, e1, _⟩ := itB_ob h1; exact Heap.lt_size e1
        · rw [q]; obtain ⟨_, e1, _⟩ := itB_ob h2; exact Heap.lt_size e1
      rw [upd_ne (Nat.ne_of_lt hlt)]
      exact (hf d hcm).1
  done := by
    intro X hP hw hK hc i pins s σ H E I hf st hg
    subst hP hw hK
    obtain ⟨hz, hTI, ⟨x0, y0, hTO⟩, h1, h2⟩ := st
    obtain ⟨xs, ys, hqx, hqy, hend⟩ := hg
    obtain ⟨its, rv, p, _, _⟩ := Inv_b I hqx
    obtain ⟨its2, rv2, p2, _, _⟩ := Inv_b I hqy
    have l1 := rv.length
    have l2 := rv2.length
    have D1 := draws_b (P := X.prog) (w := X.w) (A := X.A.in1) (I.ok.hd hc) b1 i1 a S.n1 its.toArray
    have D2 := draws_b (P := X.prog) (w := X.w) (A := X.A.in1) (I.ok.hd hc) b2 i2 c S.n2 its2.toArray
    have z1 : its.toArray.size = its.length := List.size_toArray
    have z2 : its2.toArray.size = its2.length := List.size_toArray
    exact wpAny_pyNext_zipD2_end S.sep D1 D2 hz hTI hTO ⟨h1, p⟩ ⟨h2, p2⟩ (by omega) (by omega) (by omega) fun h' tk hk => ⟨rfl, I.turnedL (t' := tk) (ch := [z, TI, TO, i1, i2]) (fun d o hb q =>
      hk d o (fun q' => hb (by simp [q'])) (fun q' => hb (by simp [q'])) (fun q' => hb (by simp [q'])) (fun q' => hb (by simp [q'])) q) hf⟩
  self := fun A i s Q E st h => wpAny_pyIter_zip st.1 h
def iZipX (K : PySem.W.Frag) (ta : TA) : TI := fun σ H R => ta σ H fun vs H1 => ∃ a c b1 b2 xs ys, vs = [.ref a, .ref c] ∧ SqB K b1 H1 a xs ∧ SqB K b2 H1 c ys ∧ R (ItzB K b1 b2 a c) H1
theorem pi_zipX {X : Cx} {e e2 : Expr} {ta : TA} {p pos tpos : Pos} {elts : List Expr} {kk : Nat} (hg : Gl X "zip") (hm : X.mg "zip" = none) (ha : PA X [e, e2] ta) (hp : plainE e = true) (hp2 : plainE e2 = true) :
    PI X (.Tuple elts kk tpos) (.Call (.Name "zip" p) [e, e2] [] pos) (iZipX X.K ta) := by
  refine ⟨fun pins s σ H R I h => ?_⟩
  refine wpAny_Call_Name_kw (ld_blt I hg hm PyProof.Rows.boot_zip (PyProof.Rows.callWith_type1 (thn (ha.run pos pins s σ H _ I h) fun us s1 ⟨vs, H1, I1, r1, q1⟩ => ?_) (star_cons hp) (back_any (by rw [List.all_cons, hp2]; rfl))))
  obtain ⟨a, c, b1, b2, xs, ys, rfl, hqx, hqy, q⟩ := q1
  cases r1 with
  | cons r rr =>
    cases rr with
    | cons r' rr =>
      cases rr
      cases r
      cases r'
      obtain ⟨its, rv, p1, l1, _⟩ := Inv_b I1 hqx
      obtain ⟨its2, rv2, p2, l2, _⟩ := Inv_b I1 hqy
      refine zip_begins2 (begins_b b1 a its.toArray) (begins_b b2 c its2.toArray) p1 p2 fun h' hz hTI hTO h1 h2 hsz hk => wpAny_pyIter_zip hz ?_
      have I2 : L2.Inv X pins σ H1 { s1 with heap := h' } := I1.kept (t' := s1.toks) hk
      refine ⟨s1.heap.objs.size + 4, [s1.heap.objs.size + 4, s1.heap.objs.size + 2, s1.heap.objs.size + 3, s1.heap.objs.size, s1.heap.objs.size + 1], _, _, H1, rfl, I2,
        turn_zipB ⟨zip_sep2 (fp1 := [a]) (fp2 := [c]) (fun b hb => by rw [List.mem_singleton.mp hb]; exact l1) (fun b hb => by rw [List.mem_singleton.mp hb]; exact l2), Nat.ne_of_lt l1, Nat.ne_of_lt (Nat.lt_succ_of_lt l2)⟩,
        ⟨hz, hTI, ⟨_, _, hTO⟩, itB_new h1, itB_new h2⟩, fun d hcm => ?_, q⟩
      have e' : d = s1.heap.objs.size + 4 ∨ d = s1.heap.objs.size + 2 ∨ d = s1.heap.objs.size + 3 ∨ d = s1.heap.objs.size ∨ d = s1.heap.objs.size + 1 := by simpa using hcm
      have hle : s1.heap.objs.size ≤ d := by
        rcases e' with z | z | z | z | z
        · rw [z]; exact Nat.le_add_right _ _
        · rw [z]; exact Nat.le_add_right _ _
        · rw [z]; exact Nat.le_add_right _ _
        · rw [z]; exact Nat.le_refl _
        · rw [z]; exact Nat.le_add_right _ _
      exact I1.fpOk hle (I1.hok.fresh hle)
end R

set_option Elab.async false
set_option linter.all false
set_option maxRecDepth 100000
set_option maxHeartbeats 2000000
/-! R18: enumerate, zip, on data; living lists; places -/
namespace R
open PySem PySem.Spec PySem.Calls PyProof.Rows L2
def kindB : D → Bool
  | .tup _ => false
  | _ => true
theorem RepP.seqB {K : PySem.W.Frag} {W : Wd} {M : List MO} {H : Hp} {v : V} {d : D} {ds : List D} (w : Rw K W M H) (r : RepP K W v d) (h : seqItems d = some ds) : ∃ a vs, v = .ref a ∧ SqB K (kindB d) H a vs ∧ RepsW K W vs ds := by
  unfold seqItems at h
  split at h
  · cases h
    obtain ⟨a, vs, rfl, h1, r1⟩ := r.tup w
    exact ⟨a, vs, rfl, h1, r1⟩
  · cases h
    obtain ⟨a, vs, rfl, h1, r1⟩ := r.lst w
    exact ⟨a, vs, rfl, .inl (.inl h1), r1⟩
  · cases h
    obtain ⟨a, vs, rfl, h1, r1⟩ := r.scr w
    exact ⟨a, vs, rfl, h1, r1⟩
  · cases h
/-! ### enumerate -/
def enumD (ds : List D) : List D := ds.mapIdx fun i d => .tup [.int (i : Nat), d]
def iEnumD (f : EP) : EI := fun env M => match f env M with
  | some (d, M1) => (seqItems d).map fun xs => (enumD xs, M1)
  | none => none
theorem enumD_get {ds : List D} {i : Nat} {d : D} (h : (enumD ds)[i]? = some d) : ∃ x, ds[i]? = some x ∧ d = .tup [.int (i : Nat), x] := by
  unfold enumD at h
  rw [List.getElem?_mapIdx] at h
  obtain ⟨x, h1, h2⟩ := map_some h
  exact ⟨x, h1, h2.symm⟩
theorem walk_enum {K : PySem.W.Frag} {W : Wd} {M : List MO} {H : Hp} {a : Addr} {b : Bool} {vs : List V} {ds : List D} (i : Nat) (w : Rw K W M H) (h : SqB K b H a vs) (r : RepsW K W vs ds) :
    ((enumD ds).length = i → (IteB K b a).stop i H) ∧ (∀ d, (enumD ds)[i]? = some d → (IteB K b a).go i H ∧ ∀ x H', (IteB K b a).yld i H x H' → ∃ W', Evo W W' ∧ Rw K W' M H' ∧ RepW K W' x d) := by
  refine ⟨fun hl => ⟨vs, h, ?_⟩, fun d hd => ?_⟩
  · rw [r.length]
    simpa [enumD] using hl
  · obtain ⟨y, hy, rfl⟩ := enumD_get hd
    obtain ⟨v, hv, rv⟩ := r.get hy
    refine ⟨⟨vs, v, h, hv⟩, fun x H' ⟨T, x', ex, hT, eH, hx⟩ => ?_⟩
    subst ex eH
    have e := hx vs h
    rw [hv] at e
    cases e
    exact w.newT hT (.cons (.int _) (.cons rv .nil))
section
variable {X : Cx} {e : Expr} {f : EP} {p pos tpos : Pos} {elts : List Expr} {kk : Nat}
theorem enum_some {env : Env} {M M' : List MO} {ds : List D} (e : iEnumD f env M = some (ds, M')) : ∃ d xs, f env M = some (d, M') ∧ seqItems d = some xs ∧ ds = enumD xs := by
  unfold iEnumD at e
  split at e
  · rename_i d M1 h
    obtain ⟨xs, h1, h2⟩ := map_some e
    cases h2
    exact ⟨d, xs, h, h1, rfl⟩
  · cases e
theorem iEnumP (hg : Gl X "enumerate") (hm : X.mg "enumerate" = none) (he : PE X e (tP X.K f)) (hp : plainE e = true) : PI X (.Tuple elts kk tpos) (.Call (.Name "enumerate" p) [e] [] pos) (tI X.K (iEnumD f)) := PI.imp (pi_enumX hg hm he hp) fun σ H R h => by
  obtain ⟨W, env, M, ds, M', w, re, e, q⟩ := h
  obtain ⟨d, xs, e1, e2, rfl⟩ := enum_some e
  refine ⟨W, env, M, d, M', w, re, e1, fun v H' W' ev w' r => ?_⟩
  obtain ⟨a, vs, rfl, h1, r1⟩ := r.seqB w' e2
  refine ⟨a, _, vs, rfl, h1, q _ _ _ ev w' fun i W2 M2 H2 e3 w2 => ?_⟩
  obtain ⟨a2, vs2, ea, h3, r3⟩ := (r.evoO e3).seqB w2 e2
  cases ea
  exact walk_enum i w2 h3 r3
theorem iEnumF (hg : Gl X "enumerate") (hm : X.mg "enumerate" = none) (he : PE X e (tF X.K f)) (hp : plainE e = true) : PI X (.Tuple elts kk tpos) (.Call (.Name "enumerate" p) [e] [] pos) (tIS X.K (iEnumD f)) := PI.imp (pi_enumX hg hm he hp) fun σ H R h => by
  obtain ⟨W, env, M, ds, M', w, re, e, q⟩ := h
  obtain ⟨d, xs, e1, e2, rfl⟩ := enum_some e
  refine ⟨W, env, M, d, M', w, re, e1, fun v H' W' ev w' r => ?_⟩
  obtain ⟨a, vs, rfl, h1, r1⟩ := (RepP.fz r).seqB w' e2
  refine ⟨a, _, vs, rfl, h1, q _ _ _ ev w' fun i W2 M2 H2 e3 w2 => ?_⟩
  obtain ⟨a2, vs2, ea, h3, r3⟩ := (RepP.fz (r.evoG e3)).seqB w2 e2
  cases ea
  exact walk_enum i w2 h3 r3
end
/-! ### zip -/
def zipD (xs ys : List D) : List D := List.zipWith (fun x y => .tup [x, y]) xs ys
def iZipD (fs : EL) : EI := fun env M => match fs env M with
  | some ([x, y], M1) => match seqItems x, seqItems y with
    | some xs, some ys => some (zipD xs ys, M1)
    | _, _ => none
  | _ => none
theorem walk_zip {K : PySem.W.Frag} {W : Wd} {M : List MO} {H : Hp} {a c : Addr} {b1 b2 : Bool} {vs us : List V} {ds es : List D} (i : Nat) (w : Rw K W M H) (h : SqB K b1 H a vs) (h2 : SqB K b2 H c us) (r : RepsW K W vs ds) (r2 : RepsW K W us es) :
    ((zipD ds es).length = i → (ItzB K b1 b2 a c).stop i H) ∧ (∀ d, (zipD ds es)[i]? = some d → (ItzB K b1 b2 a c).go i H ∧ ∀ x H', (ItzB K b1 b2 a c).yld i H x H' → ∃ W', Evo W W' ∧ Rw K W' M H' ∧ RepW K W' x d) := by
  refine ⟨fun hl => ⟨vs, us, h, h2, ?_⟩, fun d hd => ?_⟩
  · rw [r.length, r2.length]
    simpa [zipD] using hl
  · unfold zipD at hd
    rw [List.getElem?_zipWith] at hd
    cases e1 : ds[i]? with
    | none =>
      rw [e1] at hd
      cases hd
    | some x =>
      cases e2 : es[i]? with
      | none =>
        rw [e1, e2] at hd
        cases hd
      | some y =>
        rw [e1, e2] at hd
        cases hd
        obtain ⟨v, hv, rv⟩ := r.get e1
        obtain ⟨u, hu, ru⟩ := r2.get e2
        refine ⟨⟨vs, us, v, u, h, h2, hv, hu⟩, fun z H' ⟨T, x', y', ex, hT, eH, hx, hy⟩ => ?_⟩
        subst ex eH
        have q1 := hx vs h
        rw [hv] at q1
        cases q1
        have q2 := hy us h2
        rw [hu] at q2
        cases q2
        exact w.newT hT (.cons rv (.cons ru .nil))
theorem zip_some {fs : EL} {env : Env} {M M' : List MO} {ds : List D} (e : iZipD fs env M = some (ds, M')) : ∃ x y xs ys, fs env M = some ([x, y], M') ∧ seqItems x = some xs ∧ seqItems y = some ys ∧ ds = zipD xs ys := by
  unfold iZipD at e
  split at e
  · rename_i x y M1 h
    split at e
    · rename_i xs ys h1 h2
      cases e
      exact ⟨x, y, xs, ys, h, h1, h2, rfl⟩
    · cases e
  · cases e
section
variable {X : Cx} {e e2 : Expr} {fs : EL} {p pos tpos : Pos} {elts : List Expr} {kk : Nat}
theorem RepPs.evoO {K : PySem.W.Frag} {W W' : Wd} : ∀ {vs : List V} {ds : List D}, RepPs K W vs ds → EvoO W W' → RepPs K W' vs ds
  | _, _, .nil, _ => .nil
  | _, _, .cons h t, e => .cons (h.evoO e) (RepPs.evoO t e)
theorem RepPs.ofReps {K : PySem.W.Frag} {W : Wd} : ∀ {vs : List V} {ds : List D}, RepsW K W vs ds → RepPs K W vs ds
  | _, _, .nil => .nil
  | _, _, .cons h t => .cons (.fz h) (RepPs.ofReps t)
theorem iZipP (hg : Gl X "zip") (hm : X.mg "zip" = none) (ha : PA X [e, e2] (tLP X.K fs)) (hp : plainE e = true) (hp2 : plainE e2 = true) : PI X (.Tuple elts kk tpos) (.Call (.Name "zip" p) [e, e2] [] pos) (tI X.K (iZipD fs)) := PI.imp (pi_zipX hg hm ha hp hp2) fun σ H R h => by
  obtain ⟨W, env, M, ds, M', w, re, e, q⟩ := h
  obtain ⟨x, y, xs, ys, e1, e2, e3, rfl⟩ := zip_some e
  refine ⟨W, env, M, _, M', w, re, e1, fun vs H' W' ev w' r => ?_⟩
  obtain ⟨v, u, rfl, rv, ru⟩ := r.two
  obtain ⟨a, vs, rfl, h1, r1⟩ := rv.seqB w' e2
  obtain ⟨c, us, rfl, h2, r2⟩ := ru.seqB w' e3
  refine ⟨a, c, _, _, vs, us, rfl, h1, h2, q _ _ _ ev w' fun i W2 M2 H2 e4 w2 => ?_⟩
  obtain ⟨a2, vs2, ea, h3, r3⟩ := (rv.evoO e4).seqB w2 e2
  cases ea
  obtain ⟨c2, us2, ec, h4, r4⟩ := (ru.evoO e4).seqB w2 e3
  cases ec
  exact walk_zip i w2 h3 h4 r3 r4
theorem iZipF (hg : Gl X "zip") (hm : X.mg "zip" = none) (ha : PA X [e, e2] (tL X.K fs)) (hp : plainE e = true) (hp2 : plainE e2 = true) : PI X (.Tuple elts kk tpos) (.Call (.Name "zip" p) [e, e2] [] pos) (tIS X.K (iZipD fs)) := PI.imp (pi_zipX hg hm ha hp hp2) fun σ H R h => by
  obtain ⟨W, env, M, ds, M', w, re, e, q⟩ := h
  obtain ⟨x, y, xs, ys, e1, e2, e3, rfl⟩ := zip_some e
  refine ⟨W, env, M, _, M', w, re, e1, fun vs H' W' ev w' r => ?_⟩
  cases r with
  | cons rv r =>
    cases r with
    | cons ru r =>
      cases r
      obtain ⟨a, vs, rfl, h1, r1⟩ := (RepP.fz rv).seqB w' e2
      obtain ⟨c, us, rfl, h2, r2⟩ := (RepP.fz ru).seqB w' e3
      refine ⟨a, c, _, _, vs, us, rfl, h1, h2, q _ _ _ ev w' fun i W2 M2 H2 e4 w2 => ?_⟩
      obtain ⟨a2, vs2, ea, h3, r3⟩ := (RepP.fz (rv.evoG e4)).seqB w2 e2
      cases ea
      obtain ⟨c2, us2, ec, h4, r4⟩ := (RepP.fz (ru.evoG e4)).seqB w2 e3
      cases ec
      exact walk_zip i w2 h3 h4 r3 r4
end
/-! ### living lists -/
/-- a new list lives on -/
def eLive (f : EE) : EP := fun env M => match f env M with
  | some ((.lst ds, true), M') => some (.obj M'.length, M' ++ [.lst ds])
  | _ => none
theorem Rw.live {K : PySem.W.Frag} {W : Wd} {M : List MO} {H : Hp} {a : Addr} {m : MO} (w : Rw K W M H) (r : MoOk K W.G W.al H a m) (g : W.G a = none) (b : W.B a = none) (oo : W.O a = none) (ma : a ∉ W.al) :
    Evo W { W with al := W.al ++ [a] } ∧ Rw K { W with al := W.al ++ [a] } (M ++ [m]) H := by
  have ev : Evo W { W with al := W.al ++ [a] } := ⟨Le.refl _, rfl, rfl, ⟨[a], rfl⟩⟩
  refine ⟨ev, ⟨w.g, w.b, w.o, w.gb, w.bo, fun c hc => ?_, ?_, ?_, fun n c m' h1 h2 => ?_⟩⟩
  · rcases List.mem_append.mp hc with hc | hc
    · exact w.ag c hc
    · rw [List.mem_singleton.mp hc]
      exact ⟨g, b, oo⟩
  · exact (List.perm_append_singleton _ _).nodup_iff.mpr (List.nodup_cons.mpr ⟨ma, w.nd⟩)
  · show (W.al ++ [a]).length = (M ++ [m]).length
    rw [List.length_append, List.length_append, w.ml]
    rfl
  · have h1 : (W.al ++ [a])[n]? = some c := h1
    by_cases hn : n < W.al.length
    · rw [List.getElem?_append_left hn] at h1
      rw [List.getElem?_append_left (by rw [← w.ml]; exact hn)] at h2
      exact (w.mo n c m' h1 h2).mono ev.g ev.al rfl
    · rw [List.getElem?_append_right (Nat.le_of_not_lt hn)] at h1
      rw [List.getElem?_append_right (by rw [← w.ml]; exact Nat.le_of_not_lt hn), ← w.ml] at h2
      cases e : n - W.al.length with
      | zero =>
        rw [e] at h1 h2
        cases h1
        cases h2
        exact r.mono ev.g ev.al rfl
      | succ j =>
        rw [e] at h1
        cases h1
theorem pLive {X : Cx} {e : Expr} {f : EE} (he : PE X e (tE X.K f)) : PE X e (tF X.K (eLive f)) := PE.imp he fun σ H Q h => by
  obtain ⟨W, env, M, d, M', w, re, e, q⟩ := h
  unfold eLive at e
  split at e
  · rename_i ds M1 hf
    cases e
    refine ⟨W, env, M, _, M1, w, re, hf, fun v H' W' ev w' r => ?_⟩
    cases r with
    | new h r g b oo m =>
      cases r with
      | lst r =>
        obtain ⟨e2, w2⟩ := w'.live (.lst h r) g b oo m
        refine q _ _ _ (ev.trans e2) w2 (.obj ?_)
        rw [← w'.ml]
        show (W'.al ++ [_])[W'.al.length]? = _
        rw [List.getElem?_append_right (Nat.le_refl _), Nat.sub_self]
        rfl
  · cases e
theorem RepP.live {K : PySem.W.Frag} {W : Wd} {M : List MO} {H : Hp} {v : V} {n : Nat} {ds : List D} (w : Rw K W M H) (r : RepP K W v (.obj n)) (h : M[n]? = some (.lst ds)) : ∃ a vs, v = .ref a ∧ W.al[n]? = some a ∧ H a = some (.lst vs) ∧ RepsW K W vs ds := by
  obtain ⟨a, rfl, ha⟩ := r.obj
  have z := w.mo n a _ ha h
  cases z with
  | lst h r => exact ⟨a, _, rfl, ha, h, r⟩
/-- a place of a living list, or of a value -/
def eIxM (fa fb : EP) : EE := fun env M => match fa env M with
  | some (x, M1) => match fb env M1 with
    | some (y, M2) => match x, y with
      | .obj n, .int i => match M2[n]? with
        | some (.lst ds) => (atI ds i).map fun d => ((d, false), M2)
        | _ => none
      | x, y => (dIx x y).map fun r => (r, M2)
    | none => none
  | none => none
theorem tE_ixM {K : PySem.W.Frag} {fa fb : EP} {σ : L2.St} {H : Hp} {Q : VK} (h : tE K (eIxM fa fb) σ H Q) : tP K fa σ H fun x H1 => tP K fb σ H1 fun y H2 => rIxX K x y H2 Q := by
  obtain ⟨W, env, M, r, M', w, re, e, q⟩ := h
  unfold eIxM at e
  split at e
  · rename_i x M1 h1
    split at e
    · rename_i y M2 h2
      refine ⟨W, env, M, x, M1, w, re, h1, fun v H1 W1 e1 w1 r1 => ⟨W1, env, M1, y, M2, w1, re.evo e1, h2, fun u H2 W2 e2 w2 r2 => ?_⟩⟩
      split at e
      · rename_i n i
        split at e
        · rename_i ds hn
          obtain ⟨d, hd, ed⟩ := map_some e
          cases ed
          obtain ⟨a, vs, rfl, _, ha, rs⟩ := (r1.evo e2).live w2 hn
          obtain ⟨z, hz, rz⟩ := rs.atI hd
          exact .inl ⟨a, vs, i, z, rfl, r2.int, .inl (.inl ha), hz, q _ _ _ (e1.trans e2) w2 (.old rz)⟩
        · cases e
      · obtain ⟨d, hd, ed⟩ := map_some e
        cases ed
        exact ok_ix W2 _ H2 v u _ _ _ _ w2 (r1.evo e2) r2 hd fun v H' W' e3 w3 r3 => q _ _ _ ((e1.trans e2).trans e3) w3 r3
    · cases e
  · cases e
theorem pIxM {X : Cx} {a b : Expr} {pos : Pos} {fa fb : EP} (ha : PE X a (tP X.K fa)) (hb : PE X b (tP X.K fb)) (hs : PlainIx b) : PE X (.Subscript a b pos) (tE X.K (eIxM fa fb)) :=
  PE.imp (pe_ix ix_X ha hb hs) fun _ _ _ h => tE_ixM h
/-- x[i] = e -/
theorem Rw.mut {K : PySem.W.Frag} {W : Wd} {M : List MO} {H : Hp} {a : Addr} {n : Nat} {o : HO} {m : MO} (w : Rw K W M H) (ha : W.al[n]? = some a) (r : MoOk K W.G W.al (upd H a o) a m) : Rw K W (M.set n m) (upd H a o) := by
  obtain ⟨g, b, oo⟩ := w.ag a (List.mem_of_getElem? ha)
  have ne : ∀ {G : Hp}, G a = none → Le G H → Le G (upd H a o) := fun {G} hg l c u e => by
    have z : c ≠ a := fun z => by
      rw [z, hg] at e
      cases e
    rw [upd_ne z]
    exact l _ _ e
  refine ⟨ne g w.g, ne b w.b, ne oo w.o, w.gb, w.bo, w.ag, w.nd, by rw [List.length_set]; exact w.ml, fun k c m' h1 h2 => ?_⟩
  have hn : n < M.length := by rw [← w.ml]; exact (List.getElem?_eq_some_iff.mp ha).1
  by_cases z : n = k
  · subst z
    rw [List.getElem?_set_self hn] at h2
    cases h2
    rw [ha] at h1
    cases h1
    exact r
  · rw [List.getElem?_set_ne z] at h2
    have zc : c ≠ a := fun zc => by
      subst zc
      obtain ⟨l1, e1⟩ := List.getElem?_eq_some_iff.mp ha
      obtain ⟨l2, e2⟩ := List.getElem?_eq_some_iff.mp h1
      exact z ((List.getElem?_inj l1 w.nd).mp (ha.trans h1.symm))
    exact (w.mo k c m' h1 h2).mono (Le.refl _) (Pre.refl _) (upd_ne zc)
def sSub (i : Nat) (fi fe : EP) : ES := fun env M => match fe env M with
  | some (d, M1) => match env[i]? with
    | some (.fz (.obj n)) => match fi env M1 with
      | some (.int k, M2) => match M2[n]? with
        | some (.lst ds) => match ixN ds.length k with
          | some j => some (.nx, env, M2.set n (.lst (ds.set j d)))
          | none => none
        | _ => none
      | _ => none
    | some (.own (.lst ds)) => match fi env M1 with
      | some (.int k, M2) => match ixN ds.length k with
        | some j => some (.nx, env.set i (.own (.lst (ds.set j d))), M2)
        | none => none
      | _ => none
    | _ => none
  | none => none
theorem tAsg_sub {K : PySem.W.Frag} {i : Nat} {fi fe : EP} {Dd : Ends} {σ : L2.St} {H : Hp} (h : tS K (sSub i fi fe) Dd σ H) : tAsg (tF K fe) (gSub (tVar i) (tP K fi) rSetL) Dd σ H := by
  obtain ⟨W, env, M, fl, env', M', w, re, e, q⟩ := h
  unfold sSub at e
  split at e
  · rename_i d M1 h1
    refine ⟨W, env, M, d, M1, w, re, h1, fun v H1 W1 e1 w1 rv => ?_⟩
    have re1 := re.evo e1
    split at e
    · rename_i n hn
      have y := re1.at_ i _ hn
      cases hx : σ[i]? with
      | none =>
        rw [hx] at y
        cases y
      | some x =>
        rw [hx] at y
        cases y with
        | fz y =>
          split at e
          · rename_i k M2 h2
            split at e
            · rename_i ds hM
              split at e
              · rename_i j hj
                cases e
                refine ⟨_, hx, W1, env, M1, _, M2, w1, re1, h2, fun u H2 W2 e2 w2 ru => ?_⟩
                obtain ⟨a, vs, rfl, ha, hv, rs⟩ := (RepP.fz (y.evo e2)).live w2 hM
                refine ⟨a, vs, k, j, rfl, ru.int, hv, by rw [rs.length]; exact hj, ?_⟩
                have w3 := w2.mut (o := .lst (vs.set j v)) ha (.lst upd_same (Reps.set j (rv.evo e2) rs))
                exact q _ _ W2 (e1.trans e2).s w3 (re1.evo e2)
              · cases e
            · cases e
          · cases e
    · rename_i ds hds
      have y := re1.at_ i _ hds
      cases hx : σ[i]? with
      | none =>
        rw [hx] at y
        cases y
      | some x =>
        rw [hx] at y
        cases y with
        | own y r =>
          rename_i a o
          cases r with
          | lst r =>
            rename_i vs
            split at e
            · rename_i k M2 h2
              split at e
              · rename_i j hj
                cases e
                refine ⟨_, hx, W1, env, M1, _, _, w1, re1, h2, fun u H2 W2 e2 w2 ru => ?_⟩
                have ho : W2.O a = some (.lst vs) := by
                  rw [e2.o]
                  exact y
                have rs := Reps.evo r e2
                refine ⟨a, vs, k, j, rfl, ru.int, w2.o _ _ ho, by rw [rs.length]; exact hj, ?_⟩
                obtain ⟨W3, e3, w3, re3⟩ := Re.write w2 (re1.evo e2) hds hx ho (.lst (Reps.set j (rv.evo e2) rs))
                exact q _ _ W3 ((e1.trans e2).s.trans e3) w3 re3
              · cases e
            · cases e
    · cases e
  · cases e
/-! ### l.index(x) -/
theorem pys_map (ds : List D) : D.pys ds = ds.map D.py := by
  induction ds with
  | nil => rfl
  | cons d ds ih =>
    rw [D.pys, ih]
    rfl

theorem pys_len (ds : List D) : (D.pys ds).length = ds.length := by
  rw [pys_map, List.length_map]
theorem tE_index {K : PySem.W.Frag} {fa fb : EP} {σ : L2.St} {H : Hp} {Q : VK} (h : tE K (eOp dIndex fa fb) σ H Q) : tBM K "list" (rIndexD K) (tP K fa) (tCons (tP K fb) tNil) σ H Q := by
  obtain ⟨W, env, M, r, M', w, re, e, q⟩ := h
  unfold eOp at e
  split at e
  · rename_i x M1 h1
    split at e
    · rename_i y M2 h2
      obtain ⟨res, hd, er⟩ := map_some e
      cases er
      unfold dIndex at hd
      split at hd
      · rename_i _ ds
        split at hd
        · rename_i hc
          simp only [Bool.and_eq_true, decide_eq_true_eq] at hc
          obtain ⟨⟨⟨p1, p2⟩, p3⟩, p4⟩ := hc
          obtain ⟨j, hj, ej⟩ := map_some hd
          cases ej
          refine ⟨W, env, M, _, M1, w, re, h1, fun v H1 W1 e1 w1 r1 => ?_⟩
          obtain ⟨a, vs, rfl, ha, rs⟩ := r1.lst w1
          refine ⟨.inl ⟨rfl, vs, .inl (.inl ha)⟩, W1, env, M1, _, _, w1, re.evo e1, h2, fun u H2 W2 e2 w2 r2 => ?_⟩
          have pl : (D.lst ds).pure = true := p2
          obtain ⟨dl, cl⟩ := (r1.evo e2).dp w2 pl
          obtain ⟨dd, cd⟩ := r2.dp w2 p1
          obtain ⟨z, g1, g2, g3⟩ := ixOf_some hj
          have sl : SeqAt.shaped (D.py (.lst ds)) = true := by
            unfold SeqAt.shaped
            rw [cl, D.depth_py _ pl]
            simp only [Bool.true_and, decide_eq_true_eq]
            show D.depths ds + 1 ≤ 64
            omega
          have sd : SeqAt.shaped y.py = true := by
            unfold SeqAt.shaped
            rw [cd, D.depth_py _ p1]
            simp only [Bool.true_and, decide_eq_true_eq]
            exact p4
          refine ⟨a, u, y.py, D.pys ds, j, z.py, rfl, rfl, dl, dd, sl, sd, ?_, g2, fun m z' hm hz => ?_, q _ _ _ (e1.trans e2) w2 (.old (.int _))⟩
          · rw [pys_get, g1]
            rfl
          · rw [pys_get] at hz
            obtain ⟨y', hy, rfl⟩ := map_some hz
            exact g3 m y' hm hy
        · cases hd
      · cases hd
    · cases e
  · cases e
theorem pIndex {X : Cx} {o e : Expr} {apos cpos : Pos} {fa fb : EP} (hu : X.A.units + 70 < cLine) (ho : PE X o (tP X.K fa)) (he : PE X e (tP X.K fb)) (hp : plainE e = true) (hat : attributeBase o "index" X.env (eval o X.env) = eval o X.env) (hline : (apos.endLine == cpos.line) = true) :
    PE X (.Call (.Attribute o "index" apos) [e] [] cpos) (tE X.K (eOp dIndex fa fb)) := by
  refine PE.imp (pe_bm PySem.F.plainAttrs_list PySem.F.slot_list_index PySem.F.type_list_index (mt_indexD (by omega)) ho (pa_cons he pa_nil (star_cons hp)) hat ?_ hline (star_cons hp) (by rfl)) fun _ _ _ h => tE_index h
  rw [star_cons hp]
  rfl
/-! ### x[::-1] -/
theorem rev_applied {prog : Program} {w : World} {A : Around} {E : Value → Shared → Prop} {s : Shared} {sl : Addr} {vs : Value} {n : Nat} {Q : Int × Int × Nat → Shared → Prop} (hs : s.heap.IsSliceOf sl .none .none vs) (ps : IsPart vs (some (-1)))
    (h : Q ((n : Int) - 1, -1, n) s) : wpAny (model prog w) A (Builtin.Slice.sliceApplied (.ref sl) (pure (n : Int))) Q E s := by
  obtain ⟨os, hos, hcs, hds⟩ := id hs
  unfold Builtin.Slice.sliceApplied Builtin.Slice.sliceFields
  refine wpAny_bind (wpAny_bind (wpAny_field hos hds (x := .none) rfl (wpAny_bind (wpAny_field hos hds (x := .none) rfl (wpAny_bind (wpAny_field hos hds (x := vs) rfl (wpAny_pure ?_)))))))
  refine wpAny_bind (HT.slicePart_ ps ?_)
  show wpAny _ _ (if ((-1 : Int) == 0) = true then _ else _) _ _ s
  rw [if_neg (by decide)]
  refine wpAny_bind (slicePart_none (wpAny_bind (slicePart_none (wpAny_bind (wpAny_pure ?_)))))
  have ep : Builtin.Slice.slicePlaces ((n : Int) - 1) (-1) (-1) = n := by
    unfold Builtin.Slice.slicePlaces
    by_cases e : n = 0
    · subst e
      rfl
    · have h1 : ¬ ((-1 : Int) > 0) := by decide
      simp
      omega
  show wpAny _ _ (pure ((n : Int) - 1, (-1 : Int), Builtin.Slice.slicePlaces ((n : Int) - 1) (-1) (-1))) _ _ s
  rw [ep]
  exact wpAny_pure h
end R

set_option Elab.async false
set_option linter.all false
set_option maxRecDepth 100000
set_option maxHeartbeats 2000000
/-! R19: x[::-1] -/
namespace R
open PySem PySem.Spec PySem.Calls PyProof.Rows L2
theorem fm_congr {α β : Type} {f g : α → Option β} : ∀ {l : List α}, (∀ x ∈ l, f x = g x) → l.filterMap f = l.filterMap g
  | [], _ => rfl
  | x :: l, h => by
    rw [List.filterMap_cons, List.filterMap_cons, h x (List.mem_cons_self ..), fm_congr fun y hy => h y (List.mem_cons_of_mem _ hy)]
theorem rev_pick (xs : Array Value) : ((List.range xs.size).filterMap fun (m : Nat) => xs[((xs.size : Int) - 1 + (m : Int) * (-1)).toNat]?).toArray = xs.toList.reverse.toArray := by
  have e : (List.range xs.size).filterMap (fun (m : Nat) => xs[((xs.size : Int) - 1 + (m : Int) * (-1)).toNat]?) = ((List.range xs.size).map fun k => xs.size - 1 - k).filterMap (xs[·]?) := by
    rw [List.filterMap_map]
    refine fm_congr fun m hm => ?_
    have hm := List.mem_range.mp hm
    have : ((xs.size : Int) - 1 + (m : Int) * (-1)).toNat = xs.size - 1 - m := by omega
    rw [this]
    rfl
  rw [e, PySem.W.krv_range, List.filterMap_reverse, PySem.W.krv_all]
theorem getItem_tuple_rev {prog : Program} {w : World} {A : Around} {E : Value → Shared → Prop} {s : Shared} {t sl : Addr} {items : Array Value} {vs : Value} {Q : Value → Shared → Prop} (ht : IsTup s.heap t items) (hs : s.heap.IsSliceOf sl .none .none vs) (ps : IsPart vs (some (-1)))
    (h : Q (.ref s.heap.objs.size) { s with heap := s.heap.push { cls := .type "tuple", data := .seq items.toList.reverse.toArray } })
    (hsz : items.size ≤ sizeLine) : wpAny (model prog w) A (getItem (.ref t) (.ref sl)) Q E s := by
  have hz : sizeOk (.seq items.toList.reverse.toArray) := by
    show items.toList.reverse.toArray.size ≤ sizeLine
    rw [List.size_toArray, List.length_reverse, Array.length_toList]
    exact hsz
  obtain ⟨os, hos, hcs, hds⟩ := id hs
  have hTs : s.TypeIs (.ref sl) "slice" := ⟨os, hos, hcs⟩
  unfold getItem
  try with_reducible refine wpAny_holding ?_
  first | refine wpAny_bind (wpAny_pure ?_) | skip
  refine wpAny_bind (wpAny_sequenceKey ht.typeIs (by decide) ?_)
  refine wpAny_bind (wpAny_callSpecial?_slot (name := Str.ofString "__getitem__") ht.typeIs PyProof.Rows.slot_tuple_getitem
    (wpAny_call_entry PyProof.Rows.slot_tuple_getitem ht.typeIs entry_tuple_getitem ?_ (args_tuple_getitem _ _)))
  show wpAny _ _ (Builtin.Tuple.tupleItemsOf (.ref t) >>= _) _ _ s
  refine wpAny_bind (tupleItemsOf_ ht ?_)
  refine wpAny_bind (wpAny_typeOf hTs ?_)
  rw [if_pos (by decide)]
  refine wpAny_bind (rev_applied hs ps ?_)
  have hno : ¬ ((((items.size : Int) - 1) == 0 && (-1 : Int) == 1 && items.size == items.size) = true) := by
    have z : ((-1 : Int) == 1) = false := by decide
    rw [z]
    simp
  show wpAny _ _ (if (((items.size : Int) - 1) == 0 && (-1 : Int) == 1 && items.size == items.size) = true then _ else _) _ _ s
  rw [if_neg hno, rev_pick]
  first
    | exact wpAny_bind (m := Builtin.Tuple.tupleExact _) (wpAny_newObj_type (wpAny_pure ⟨_, rfl, wpAny_pure h⟩) hz)
    | exact wpAny_bind (m := Builtin.Tuple.tupleExact _) (wpAny_newObj_type (wpAny_bind (wpAny_pure (wpAny_pure ⟨_, rfl, wpAny_pure h⟩))) hz)
    | exact wpAny_bind (wpAny_bind (m := Builtin.Tuple.tupleExact _) (wpAny_newObj_type (wpAny_pure (wpAny_pure ⟨_, rfl, wpAny_pure h⟩)) hz))
    | exact wpAny_bind (wpAny_bind (m := Builtin.Tuple.tupleExact _) (wpAny_newObj_type (wpAny_pure ⟨_, rfl, wpAny_pure h⟩) hz))
def rRevX (K : PySem.W.Frag) : V → Hp → VK → Prop := fun x H1 Q => ∃ a xs, x = .ref a ∧ ((SqL K H1 a xs ∧ ∀ p, H1 p = none → Q (.ref p) (upd H1 p (.lst xs.reverse))) ∨ (SqT K H1 a xs ∧ ∀ p, H1 p = none → Q (.ref p) (upd H1 p (.tup xs.reverse))))
theorem pe_revX {X : Cx} {e : Expr} {te : TE} {k : Nat} {p1 p2 p3 pos : Pos} (he : PE X e te) : PE X (.Subscript e (.Slice none none (some (.UnaryOp .USub (.Constant (.int 1) k p1) p2)) p3) pos) (fun σ H Q => te σ H fun x H1 => rRevX X.K x H1 Q) := by
  refine ⟨fun pins s σ H Q I h => ?_⟩
  refine Subscript_ (thn (he.run pins s σ H _ I h) fun v s1 ⟨x, H1, I1, r1, q1⟩ => ?_)
  obtain ⟨a, xs, ex, q⟩ := q1
  subst ex
  cases r1
  have hst : PO X (some (.UnaryOp .USub (.Constant (.int 1) k p1) p2)) (tPart (tUn (rU fun i => .int (-i)) (tC (.int 1)))) := po_some (pe_un un_neg pe_int)
  refine wpAny_Slice (thn (po_none.run pins s1 σ H1 (fun o H2 => o = none ∧ H2 = H1) I1 ⟨rfl, rfl⟩) fun vl s2 ⟨l, H2, I2, pl, el, e2⟩ => ?_)
  subst el e2
  refine thn (po_none.run pins s2 σ H2 (fun o H3 => o = none ∧ H3 = H2) I2 ⟨rfl, rfl⟩) fun vu s3 ⟨u, H3, I3, pu, eu, e3⟩ => ?_
  subst eu e3
  refine thn (hst.run pins s3 σ H3 (fun o H4 => o = some (-1) ∧ H4 = H3) I3 ⟨1, rfl, -1, rfl, rfl, rfl⟩) fun vs s4 ⟨o, H4, I4, ps, eo, e4⟩ => ?_
  subst eo e4
  have I5 : L2.Inv X pins σ H4 { s4 with heap := s4.heap.push { cls := .type "slice", data := .fields #[vl, vu, vs] } } := I4.kept (t' := s4.toks) fun b ob q => Heap.get?_push_of_some _ q
  show wpAny (model X.prog X.w) X.A (subscriptTail e (.Slice none none (some (.UnaryOp .USub (.Constant (.int 1) k p1) p2)) p3) (.ref a) (.ref s4.heap.objs.size)) (L2.EP X pins σ Q) X.xe { s4 with heap := s4.heap.push { cls := .type "slice", data := .fields #[vl, vu, vs] } }
  rcases q with ⟨hx, q⟩ | ⟨hx, q⟩
  · obtain ⟨its, r, ht, hz⟩ := I5.list hx
    have hlen := r.length
    refine tail_any (ops := [.ref a, .ref s4.heap.objs.size]) ht.isList.typeIs (PySem.slot_list_getitem.lookup) ?_ (by with_unfolding_all rfl)
    refine wpAny_getItem_list_slice ht.isList (Heap.IsSliceOf.new _ vl vu vs) pl pu ps (by decide) ?_ (by rw [List.size_toArray]; omega)
    rw [PySem.W.krv_pick]
    refine ⟨.ref _, _, I5.laid (t' := s4.toks) (o := .lst xs.reverse) (fun b ob q => Heap.get?_push_of_some _ q) (Nat.le_refl _) ?_, rfl, q _ (I5.hok.fresh (Nat.le_refl _))⟩
    exact ⟨by rw [List.length_reverse]; exact hz, _, 0, r.reverse, Heap.get?_push_size _ rfl⟩
  · obtain ⟨its, r, ht, hz⟩ := I5.tuple hx
    have hlen := r.length
    have epl : vl = .none := by cases pl; rfl
    have epu : vu = .none := by cases pu; rfl
    subst epl epu
    refine tail_any (ops := [.ref a, .ref s4.heap.objs.size]) ht.typeIs PyProof.Rows.slot_tuple_getitem.lookup ?_ (by with_unfolding_all rfl)
    refine getItem_tuple_rev ht (Heap.IsSliceOf.new _ .none .none vs) ps ?_ (by rw [List.size_toArray]; omega)
    refine ⟨.ref _, _, I5.laid (t' := s4.toks) (o := .tup xs.reverse) (fun b ob q => Heap.get?_push_of_some _ q) (Nat.le_refl _) ?_, rfl, q _ (I5.hok.fresh (Nat.le_refl _))⟩
    exact ⟨by rw [List.length_reverse]; exact hz, _, r.reverse, IsTup.new _ _⟩
def dRev : Op1
  | .tup xs => some (.tup xs.reverse, false)
  | .lst xs => some (.lst xs.reverse, true)
  | .scr xs => some (.lst xs.reverse, true)
  | _ => none
theorem ok_rev {K : PySem.W.Frag} : Ok1 K (rRevX K) dRev := by
  intro W M H x d res Q w rx h q
  unfold dRev at h
  split at h
  · cases h
    obtain ⟨a, vs, rfl, h1, r1⟩ := rx.tup w
    refine ⟨a, vs, rfl, .inr ⟨h1, fun p hp => ?_⟩⟩
    obtain ⟨W3, e3, w3, r3⟩ := w.newT hp r1.reverse
    exact q _ _ _ e3 w3 (.old r3)
  · cases h
    obtain ⟨a, vs, rfl, h1, r1⟩ := rx.lst w
    refine ⟨a, vs, rfl, .inl ⟨.inl (.inl h1), fun p hp => ?_⟩⟩
    obtain ⟨w3, r3⟩ := w.newL hp (.lst r1.reverse)
    exact q _ _ _ (Evo.refl W) w3 r3
  · cases h
    obtain ⟨a, vs, rfl, h1, r1⟩ := rx.scr w
    refine ⟨a, vs, rfl, .inl ⟨h1, fun p hp => ?_⟩⟩
    obtain ⟨w3, r3⟩ := w.newL hp (.lst r1.reverse)
    exact q _ _ _ (Evo.refl W) w3 r3
  · cases h
theorem pRev {X : Cx} {e : Expr} {f : EP} {k : Nat} {p1 p2 p3 pos : Pos} (he : PE X e (tP X.K f)) : PE X (.Subscript e (.Slice none none (some (.UnaryOp .USub (.Constant (.int 1) k p1) p2)) p3) pos) (tE X.K (eUn dRev f)) :=
  PE.imp (pe_revX he) fun _ _ _ h => tE_un ok_rev h

/-! ### list(range(..)), tuple(range(..)) -/
def eRngL (fs : EL) : EE := fun env M => match iRng fs env M with
  | some (ds, M1) => if ds.length ≤ 16777216 then some ((.lst ds, true), M1) else none
  | none => none
def eRngT (fs : EL) : EE := fun env M => match iRng fs env M with
  | some (ds, M1) => if ds.length ≤ 16777216 then some ((.tup ds, false), M1) else none
  | none => none
theorem reps_rg {K : PySem.W.Frag} {G : Hp} {al : List Addr} (a b : Int) : Reps K G al (rgV a b) (rints a (b - a).toNat) := by
  unfold rgV rints
  generalize List.range (b - a).toNat = l
  induction l with
  | nil => exact .nil
  | cons i l ih => exact .cons (.int _) ih
section
variable {X : Cx} {fs : EL}
theorem rg_some {fs : EL} {env : Env} {M M' : List MO} {ds : List D} (e : iRng fs env M = some (ds, M')) (hl : ds.length ≤ 16777216) : ∃ a b : Int, RgOk a b ∧ ds = rints a (b - a).toNat ∧ ((fs env M = some ([.int b], M') ∧ a = 0) ∨ fs env M = some ([.int a, .int b], M')) := by
  unfold iRng at e
  split at e
  · rename_i j M1 hf
    split at e
    · rename_i hj
      cases e
      obtain ⟨h1, h2⟩ := rng62_of hj
      rw [ints_len] at hl
      have e0 : (j - 0).toNat = j.toNat := by omega
      refine ⟨0, j, ?_, by rw [e0], .inl ⟨hf, rfl⟩⟩
      unfold RgOk
      refine ⟨by decide, by decide, h1, h2, ?_⟩
      rw [e0]
      exact hl
    · cases e
  · rename_i i j M1 hf
    split at e
    · rename_i hj
      rw [Bool.and_eq_true] at hj
      cases e
      obtain ⟨h1, h2⟩ := rng62_of hj.1
      obtain ⟨h3, h4⟩ := rng62_of hj.2
      rw [ints_len] at hl
      exact ⟨i, j, ⟨h1, h2, h3, h4, hl⟩, rfl, .inr hf⟩
    · cases e
  · cases e
def tRgX (t : TA) : L2.St → Hp → (Int → Int → Hp → Prop) → Prop := fun σ H Q => t σ H fun vs H1 => (∃ n, vs = [.int n] ∧ Q 0 n H1) ∨ ∃ i j, vs = [.int i, .int j] ∧ Q i j H1
theorem prg_X {a : Expr} {l : List Expr} {t : TA} {p pos : Pos} (hg : Gl X "range") (hm : X.mg "range" = none) (ha : PA X (a :: l) t) (hp : (a :: l).all plainE = true) : PRg X (.Call (.Name "range" p) (a :: l) [] pos) (tRgX t) := by
  intro pins s σ H Q I h
  rw [List.all_cons, Bool.and_eq_true] at hp
  refine wpAny_Call_Name_kw (ld_blt I hg hm boot_range (PyProof.Rows.callWith_type1 (thn (ha.run pos pins s σ H _ I h) fun us s1 ⟨vs, H1, I1, r1, q1⟩ => ?_) (star_cons hp.1) (back_any hp.2)))
  rcases q1 with ⟨n, rfl, q⟩ | ⟨i, j, rfl, q⟩
  · cases r1 with
    | cons r rr =>
      cases rr
      obtain ⟨t, rfl⟩ := r
      exact call_range_1 ⟨_, 0, n, _, _, _, H1, rfl, IsRange.new _ _ _ _ _ _ _, I1.kept fun b u e => Heap.get?_push_of_some _ e, q⟩
  · cases r1 with
    | cons r rr =>
      cases rr with
      | cons r' rr =>
        cases rr
        obtain ⟨t, rfl⟩ := r
        obtain ⟨t', rfl⟩ := r'
        exact call_range_2 ⟨_, i, j, _, _, _, H1, rfl, IsRange.new _ _ _ _ _ _ _, I1.kept fun b u e => Heap.get?_push_of_some _ e, q⟩
theorem tE_rngL {K : PySem.W.Frag} {fs : EL} {σ : L2.St} {H : Hp} {Q : VK} (h : tE K (eRngL fs) σ H Q) : tLstRg (tRgX (tLP K fs)) σ H Q := by
  obtain ⟨W, env, M, r, M', w, re, e, q⟩ := h
  unfold eRngL at e
  split at e
  · rename_i ds M1 h1
    split at e
    · rename_i hl
      cases e
      obtain ⟨a, b, ok, rfl, hf⟩ := rg_some h1 hl
      have fin : ∀ H' W', Evo W W' → Rw K W' M' H' → RgOk a b ∧ ∀ p, H' p = none → Q (.ref p) (upd H' p (.lst (rgV a b))) := fun H' W' ev w' => ⟨ok, fun p hp => by
        obtain ⟨w3, r3⟩ := w'.newL hp (.lst (reps_rg a b))
        exact q _ _ _ ev w3 r3⟩
      rcases hf with ⟨hf, rfl⟩ | hf
      · refine ⟨W, env, M, _, _, w, re, hf, fun vs H' W' ev w' rs => .inl ⟨b, ?_, fin H' W' ev w'⟩⟩
        obtain ⟨v, rfl, r⟩ := RepP.one rs
        rw [r.int]
      · refine ⟨W, env, M, _, _, w, re, hf, fun vs H' W' ev w' rs => .inr ⟨a, b, ?_, fin H' W' ev w'⟩⟩
        obtain ⟨v, u, rfl, r, r'⟩ := RepPs.two rs
        rw [r.int, r'.int]
    · cases e
  · cases e
theorem tE_rngT {K : PySem.W.Frag} {fs : EL} {σ : L2.St} {H : Hp} {Q : VK} (h : tE K (eRngT fs) σ H Q) : tTupRg (tRgX (tLP K fs)) σ H Q := by
  obtain ⟨W, env, M, r, M', w, re, e, q⟩ := h
  unfold eRngT at e
  split at e
  · rename_i ds M1 h1
    split at e
    · rename_i hl
      cases e
      obtain ⟨a, b, ok, rfl, hf⟩ := rg_some h1 hl
      have fin : ∀ H' W', Evo W W' → Rw K W' M' H' → RgOk a b ∧ ∀ p, H' p = none → Q (.ref p) (upd H' p (.tup (rgV a b))) := fun H' W' ev w' => ⟨ok, fun p hp => by
        obtain ⟨W3, e3, w3, r3⟩ := w'.newT hp (reps_rg a b)
        exact q _ _ _ (ev.trans e3) w3 (.old r3)⟩
      rcases hf with ⟨hf, rfl⟩ | hf
      · refine ⟨W, env, M, _, _, w, re, hf, fun vs H' W' ev w' rs => .inl ⟨b, ?_, fin H' W' ev w'⟩⟩
        obtain ⟨v, rfl, r⟩ := RepP.one rs
        rw [r.int]
      · refine ⟨W, env, M, _, _, w, re, hf, fun vs H' W' ev w' rs => .inr ⟨a, b, ?_, fin H' W' ev w'⟩⟩
        obtain ⟨v, u, rfl, r, r'⟩ := RepPs.two rs
        rw [r.int, r'.int]
    · cases e
  · cases e
theorem pRngL {a : Expr} {l : List Expr} {p p2 q pos : Pos} (hc : X.calm = true) (hg : Gl X "list") (hm : X.mg "list" = none) (hg2 : Gl X "range") (hm2 : X.mg "range" = none) (ha : PA X (a :: l) (tLP X.K fs)) (hp : (a :: l).all plainE = true) :
    PE X (.Call (.Name "list" p) [.Call (.Name "range" p2) (a :: l) [] q] [] pos) (tE X.K (eRngL fs)) := PE.imp (pe_listRg hc hg hm (prg_X hg2 hm2 ha hp)) fun _ _ _ h => tE_rngL h
theorem pRngT {a : Expr} {l : List Expr} {p p2 q pos : Pos} (hc : X.calm = true) (hg : Gl X "tuple") (hm : X.mg "tuple" = none) (hg2 : Gl X "range") (hm2 : X.mg "range" = none) (ha : PA X (a :: l) (tLP X.K fs)) (hp : (a :: l).all plainE = true) :
    PE X (.Call (.Name "tuple" p) [.Call (.Name "range" p2) (a :: l) [] q] [] pos) (tE X.K (eRngT fs)) := PE.imp (pe_tupRg hc hg hm (prg_X hg2 hm2 ha hp)) fun _ _ _ h => tE_rngT h
end
end R

set_option Elab.async false
set_option linter.all false
set_option maxRecDepth 100000
set_option maxHeartbeats 2000000
/-! R11: expressions compiled, by fuel -/
namespace R
open PySem PySem.Spec PyProof.Rows L2

abbrev CE := Expr → Option RE
abbrev CT := Expr → Option RB
abbrev Rec := Scope → (Str → Bool) → CE × CT
/-- the names that stand in two lists of slots -/
def cCst : Const → Option D
  | .int i => some (.int i)
  | .bool b => some (.bl b)
  | .none => some .non
  | .str x => if PyData.strOk x then some (.str x) else none
  | _ => none
theorem cCst_ok {X : Cx} {k : Const} {j : Nat} {pos : Pos} {d : D} (h : cCst k = some d) : PE X (.Constant k j pos) (tF X.K (eCst d)) := by
  unfold cCst at h
  split at h
  · cases h
    exact pConst pe_int fun _ => .int _
  · cases h
    exact pConst pe_bl fun _ => .bl _
  · cases h
    exact pConst pe_non fun _ => .non
  · split at h
    · rename_i ho
      cases h
      exact pConst pe_str fun _ => .str _ ho
    · cases h
  · cases h
def plainIxB : Expr → Bool
  | .Name .. => true
  | .Constant .. => true
  | .BinOp .. => true
  | .UnaryOp .. => true
  | .Call .. => true
  | .Subscript .. => true
  | _ => false
theorem plainIx_of {b : Expr} (h : plainIxB b = true) : PlainIx b := by
  cases b <;> first | (intro _ _; rfl) | cases h
def tvB : Expr → Bool
  | .Name .. => true
  | .Call .. => true
  | .Subscript .. => true
  | _ => false
theorem tv_of {a : Expr} {env : PySem.Env} (h : tvB a = true) : ∀ whole, isTrue a env whole = (do let v ← whole; standAt a.pos; holding [v] (truthy v)) := by
  cases a <;> first | (intro _; rfl) | cases h

/-! ### targets -/
def cG (c : Cn) (sc : Scope) (fnS : Str → Bool) : Nat → Expr → Option Tg
  | 0, _ => none
  | n + 1, e => match e with
    | .Name x _ => match findIx x c.N with
      | some i => if locB sc x || (celB sc x && fnS x) then some (.nm i) else none
      | none => none
    | .Tuple es _ _ => if es.all plainE then (es.mapM (cG c sc fnS n)).map .tp else none
    | _ => none
theorem locs_of {X : Cx} {c : Cn} {sc : Scope} {fnS : Str → Bool} {x : Str} (C : Ctx X c sc fnS) (h : (locB sc x || (celB sc x && fnS x)) = true) : Loc X.env.scope x ∧ (X.fn x = true ∨ X.env.scope.names.lookup x = some .local) := by
  rw [C.scope]
  rw [Bool.or_eq_true] at h
  rcases h with h | h
  · unfold locB at h
    split at h
    · rename_i e
      exact ⟨.inl e, .inr e⟩
    · cases h
  · rw [Bool.and_eq_true] at h
    obtain ⟨h1, h2⟩ := h
    unfold celB at h1
    split at h1
    · rename_i e
      exact ⟨.inr e, .inl (C.fn x h2)⟩
    · cases h1
theorem cG_ok {X : Cx} {c : Cn} {sc : Scope} {fnS : Str → Bool} (C : Ctx X c sc fnS) : ∀ (n : Nat) {e : Expr} {t : Tg}, cG c sc fnS n e = some t → PG X e (tG X.K t)
  | 0, _, _, h => by cases h
  | n + 1, e, t, h => by
    unfold cG at h
    split at h
    · rename_i x p
      split at h
      · rename_i i hi
        split at h
        · rename_i hc
          cases h
          obtain ⟨a, b⟩ := locs_of C hc
          exact gNm C.nd (by rw [C.n]; exact findIx_some hi) a b
        · cases h
      · cases h
    · rename_i es k p
      split at h
      · rename_i hp
        cases hm : es.mapM (cG c sc fnS n) with
        | none =>
          rw [hm] at h
          cases h
        | some ts =>
          rw [hm] at h
          cases h
          have key : ∀ (es : List Expr) (ts : List Tg), es.all plainE = true → es.mapM (cG c sc fnS n) = some ts → PGs X es (tGs X.K ts) ∧ es.length = ts.length := by
            intro es
            induction es with
            | nil =>
              intro ts _ hm
              cases hm
              exact ⟨gsNil, rfl⟩
            | cons e es ih =>
              intro ts hp hm
              rw [List.all_cons, Bool.and_eq_true] at hp
              rw [List.mapM_cons] at hm
              cases h1 : cG c sc fnS n e with
              | none =>
                rw [h1] at hm
                cases hm
              | some t =>
                cases h2 : es.mapM (cG c sc fnS n) with
                | none =>
                  rw [h1, h2] at hm
                  cases hm
                | some us =>
                  rw [h1, h2] at hm
                  cases hm
                  obtain ⟨a, b⟩ := ih us hp.2 h2
                  exact ⟨gsCons hp.1 (cG_ok C n h1) a, by rw [List.length_cons, List.length_cons, b]⟩
          obtain ⟨a, b⟩ := key es ts hp hm
          exact gTp C.calm hp a b
      · cases h
    · cases h

/-! ### what is walked -/
def isRange (c : Cn) (sc : Scope) (x : Str) : Bool := decide (x = "range") && glB sc x
def isGl (c : Cn) (sc : Scope) (x y : Str) : Bool := decide (x = y) && glB sc x
def isTup : Expr → Bool
  | .Tuple .. => true
  | _ => false
def cIF (c : Cn) (sc : Scope) (E : CE) (tg : Expr) (e : Expr) : Option (EI × List Nat) := match e with
  | .Call (.Name "enumerate" _) [a] [] _ => if glB sc "enumerate" && isTup tg then (cF c sc E a).map fun r => (iEnumD r.1, r.2) else none
  | .Call (.Name "zip" _) [a, b] [] _ => if glB sc "zip" && isTup tg then (match cF c sc E a, cF c sc E b with
      | some r, some t => some (iZipD (eCons r.1 (eCons t.1 eNil)), r.2 ++ t.2)
      | _, _ => none) else none
  | .Call (.Name x _) [a] [] _ => if isRange c sc x then (cP c sc E a).map fun r => (iRng (eCons r.1 eNil), r.2) else (cF c sc E e).map fun r => (iSeq r.1, r.2)
  | .Call (.Name x _) [a, b] [] _ => if isRange c sc x then (match cP c sc E a, cP c sc E b with
      | some r, some t => some (iRng (eCons r.1 (eCons t.1 eNil)), r.2 ++ t.2)
      | _, _ => none) else (cF c sc E e).map fun r => (iSeq r.1, r.2)
  | e => (cF c sc E e).map fun r => (iSeq r.1, r.2)
def cIP (c : Cn) (sc : Scope) (E : CE) (tg : Expr) (e : Expr) : Option (EI × List Nat) := match e with
  | .Call (.Name "enumerate" _) [a] [] _ => if glB sc "enumerate" && isTup tg then (cP c sc E a).map fun r => (iEnumD r.1, r.2) else none
  | .Call (.Name "zip" _) [a, b] [] _ => if glB sc "zip" && isTup tg then (match cP c sc E a, cP c sc E b with
      | some r, some t => some (iZipD (eCons r.1 (eCons t.1 eNil)), r.2 ++ t.2)
      | _, _ => none) else none
  | .Call (.Name x _) [a] [] _ => if isRange c sc x then (cP c sc E a).map fun r => (iRng (eCons r.1 eNil), r.2) else (cP c sc E e).map fun r => (iSeq r.1, r.2)
  | .Call (.Name x _) [a, b] [] _ => if isRange c sc x then (match cP c sc E a, cP c sc E b with
      | some r, some t => some (iRng (eCons r.1 (eCons t.1 eNil)), r.2 ++ t.2)
      | _, _ => none) else (cP c sc E e).map fun r => (iSeq r.1, r.2)
  | e => (cP c sc E e).map fun r => (iSeq r.1, r.2)
section
variable {X : Cx} {c : Cn} {sc : Scope} {fnS : Str → Bool} {E : CE} {tg : Expr}
theorem isRange_of (C : Ctx X c sc fnS) {x : Str} (h : isRange c sc x = true) : x = "range" ∧ Gl X x ∧ X.mg x = none := by
  unfold isRange at h
  rw [Bool.and_eq_true, decide_eq_true_eq] at h
  exact ⟨h.1, glB_of C h.2, by rw [h.1]; exact C.blt _ (by decide)⟩
theorem isTup_of (h : isTup tg = true) : ∃ es k p, tg = .Tuple es k p := by
  cases tg <;> first | exact ⟨_, _, _, rfl⟩ | cases h
theorem cIF_ok (C : Ctx X c sc fnS) (hE : SE X E) {e : Expr} {r : EI × List Nat} (h : cIF c sc E tg e = some r) : PI X tg e (tIS X.K r.1) := by
  have gen : ∀ {e : Expr}, (cF c sc E e).map (fun r => (iSeq r.1, r.2)) = some r → PI X tg e (tIS X.K r.1) := fun {e} h => by
    cases hf : cF c sc E e with
    | none =>
      rw [hf] at h
      cases h
    | some q =>
      rw [hf] at h
      cases h
      exact iSeqF (cF_ok C hE hf).1
  unfold cIF at h
  split at h
  · split at h
    · rename_i hc
      rw [Bool.and_eq_true] at hc
      obtain ⟨es, k, p, rfl⟩ := isTup_of hc.2
      obtain ⟨q, h1, rfl⟩ := map_some h
      obtain ⟨p1, p2⟩ := cF_ok C hE h1
      exact iEnumF (glB_of C hc.1) (C.blt _ (by decide)) p1 p2
    · cases h
  · split at h
    · rename_i hc
      rw [Bool.and_eq_true] at hc
      obtain ⟨es, k, p, rfl⟩ := isTup_of hc.2
      split at h
      · rename_i q t h1 h2
        cases h
        obtain ⟨p1, p2⟩ := cF_ok C hE h1
        obtain ⟨p3, p4⟩ := cF_ok C hE h2
        exact iZipF (glB_of C hc.1) (C.blt _ (by decide)) (pCons p1 (pCons p3 pNil (star_cons p4)) (star_cons p2)) p2 p4
      · cases h
    · cases h
  · split at h
    · rename_i x p a pos _ hr
      obtain ⟨rfl, g, m⟩ := isRange_of C hr
      cases hp : cP c sc E a with
      | none =>
        rw [hp] at h
        cases h
      | some q =>
        rw [hp] at h
        cases h
        obtain ⟨p1, p2⟩ := cP_ok C hE hp
        exact iRng1 g m p2 p1
    · exact gen h
  · split at h
    · rename_i x p a b pos _ hr
      obtain ⟨rfl, g, m⟩ := isRange_of C hr
      split at h
      · rename_i q t h1 h2
        cases h
        obtain ⟨p1, p2⟩ := cP_ok C hE h1
        obtain ⟨p3, p4⟩ := cP_ok C hE h2
        exact iRng2 g m p2 p4 p1 p3
      · cases h
    · exact gen h
  · exact gen h
theorem cIP_ok (C : Ctx X c sc fnS) (hE : SE X E) {e : Expr} {r : EI × List Nat} (h : cIP c sc E tg e = some r) : PI X tg e (tI X.K r.1) := by
  have gen : ∀ {e : Expr}, (cP c sc E e).map (fun r => (iSeq r.1, r.2)) = some r → PI X tg e (tI X.K r.1) := fun {e} h => by
    cases hf : cP c sc E e with
    | none =>
      rw [hf] at h
      cases h
    | some q =>
      rw [hf] at h
      cases h
      exact iSeqP (cP_ok C hE hf).1
  unfold cIP at h
  split at h
  · split at h
    · rename_i hc
      rw [Bool.and_eq_true] at hc
      obtain ⟨es, k, p, rfl⟩ := isTup_of hc.2
      obtain ⟨q, h1, rfl⟩ := map_some h
      obtain ⟨p1, p2⟩ := cP_ok C hE h1
      exact iEnumP (glB_of C hc.1) (C.blt _ (by decide)) p1 p2
    · cases h
  · split at h
    · rename_i hc
      rw [Bool.and_eq_true] at hc
      obtain ⟨es, k, p, rfl⟩ := isTup_of hc.2
      split at h
      · rename_i q t h1 h2
        cases h
        obtain ⟨p1, p2⟩ := cP_ok C hE h1
        obtain ⟨p3, p4⟩ := cP_ok C hE h2
        exact iZipP (glB_of C hc.1) (C.blt _ (by decide)) (pConsP p1 (pConsP p3 pNilP (star_cons p4)) (star_cons p2)) p2 p4
      · cases h
    · cases h
  · split at h
    · rename_i x p a pos _ hr
      obtain ⟨rfl, g, m⟩ := isRange_of C hr
      cases hp : cP c sc E a with
      | none =>
        rw [hp] at h
        cases h
      | some q =>
        rw [hp] at h
        cases h
        obtain ⟨p1, p2⟩ := cP_ok C hE hp
        exact piP (iRng1 g m p2 p1)
    · exact gen h
  · split at h
    · rename_i x p a b pos _ hr
      obtain ⟨rfl, g, m⟩ := isRange_of C hr
      split at h
      · rename_i q t h1 h2
        cases h
        obtain ⟨p1, p2⟩ := cP_ok C hE h1
        obtain ⟨p3, p4⟩ := cP_ok C hE h2
        exact piP (iRng2 g m p2 p4 p1 p3)
      · cases h
    · exact gen h
  · exact gen h
end

/-! ### comprehensions -/
def ownOf (N : List Str) (scope : Scope) : List (Str × Nat) := scope.names.filterMap fun y => match y.2 with
  | .local => (findIx y.1 N).map fun i => (y.1, i)
  | .cell => (findIx y.1 N).map fun i => (y.1, i)
  | _ => none
def noSet : Expr → Bool
  | .Set .. => false
  | _ => true
theorem noSet_of {e : Expr} {env : PySem.Env} (h : noSet e = true) : ∀ x, foldedSetIterable e env x = pure x := by
  cases e <;> first | (intro _; rfl) | cases h
def isFun (k : ScopeKind) : Bool := match k with
  | .function => true
  | _ => false
def xComp (c : Cn) (sc : Scope) (rec : Rec) (E : CE) (elt tg iter : Expr) (ifs : List Expr) (scope : Scope) : Option RE :=
  if blkC c.N sc scope (ownOf c.N scope) && noSet iter && isFun scope.kind then
    match cIP c sc E tg iter, cG c (relS scope sc) (celB scope) 4 tg, cF c (relS scope sc) (rec (relS scope sc) (celB scope)).1 elt with
    | some it, some t, some f => if t.slots.all ((ownOf c.N scope).map (·.2)).contains then (match ifs with
        | [] => some (eComp ((ownOf c.N scope).map (·.2)) it.1 t eYes f.1, it.2 ++ f.2)
        | [q] => (match (rec (relS scope sc) (celB scope)).2 q with
          | some g => some (eComp ((ownOf c.N scope).map (·.2)) it.1 t g.1 f.1, it.2 ++ (g.2 ++ f.2))
          | none => none)
        | _ => none) else none
    | _, _, _ => none
  else none
theorem Ctx.blk {X : Cx} {c : Cn} {sc : Scope} {fnS : Str → Bool} (C : Ctx X c sc fnS) {scope : Scope} (hk : scope.kind = .function) (s : Shared) (H : Hp) (a : Addr) (cl : List (Str × Addr)) (fp : List Addr) :
    Ctx (X.blk s H scope (compEnvC scope cl a X.env) fp) c (relS scope sc) (celB scope) where
  calm := C.calm
  nd := C.nd
  n := C.n
  scope := by
    rw [← C.scope]
    rfl
  kind := hk
  fn := fun x h => by
    unfold celB at h
    split at h
    · rename_i e
      show (scope.names.lookup x == some .cell) = true
      rw [e]
      rfl
    · cases h
  xe := rfl
  hu := C.hu
  blt := C.blt
  cst := C.cst
  fns := C.fns
def RecOk (c : Cn) (rec : Rec) : Prop := ∀ (X : Cx) (sc : Scope) (fnS : Str → Bool), Ctx X c sc fnS → SE X (rec sc fnS).1 ∧ ST X (rec sc fnS).2
section
variable {X : Cx} {c : Cn} {sc : Scope} {fnS : Str → Bool} {E : CE} {rec : Rec}
/-- the parts of a comprehension -/
theorem xComp_parts (C : Ctx X c sc fnS) (hE : SE X E) (hr : RecOk c rec) {elt tg iter : Expr} {ifs : List Expr} {scope : Scope} {r : RE} (h : xComp c sc rec E elt tg iter ifs scope = some r) :
    ∃ (it : EI) (t : Tg) (cond : EB) (f : EP), r.1 = eComp ((ownOf c.N scope).map (·.2)) it t cond f ∧ PI X tg iter (tI X.K it) ∧ BlkOk X.N X.env.scope scope (ownOf c.N scope) ∧
      (∀ (s : Shared) (H : Hp) (C : Addr) (cl : List (Str × Addr)) (fp : List Addr), PG (X.blk s H scope (compEnvC scope cl C X.env) fp) tg (tG X.K t)) ∧
      (∀ (s : Shared) (H : Hp) (C : Addr) (cl : List (Str × Addr)) (fp : List Addr), PTs (X.blk s H scope (compEnvC scope cl C X.env) fp) ifs (tT X.K cond)) ∧
      (∀ (s : Shared) (H : Hp) (C : Addr) (cl : List (Str × Addr)) (fp : List Addr), PE (X.blk s H scope (compEnvC scope cl C X.env) fp) elt (tF X.K f)) ∧
      (∀ x, foldedSetIterable iter X.env x = pure x) ∧ (∀ j ∈ t.slots, j ∈ (ownOf c.N scope).map (·.2)) := by
  unfold xComp at h
  split at h
  · rename_i hc
    simp only [Bool.and_eq_true] at hc
    obtain ⟨⟨hb, hs⟩, hk⟩ := hc
    have hk' : scope.kind = .function := by
      unfold isFun at hk
      split at hk
      · assumption
      · cases hk
    have ok : BlkOk X.N X.env.scope scope (ownOf c.N scope) := by
      rw [C.n, C.scope]
      exact blkOk_by hb
    split at h
    · rename_i it t f h1 h2 h3
      split at h
      · rename_i hsub
        have sub : ∀ j ∈ t.slots, j ∈ (ownOf c.N scope).map (·.2) := fun j hj => by
          have z := (List.all_eq_true.mp hsub) j hj
          simpa using z
        have hg : ∀ (s : Shared) (H : Hp) (a : Addr) (cl : List (Str × Addr)) (fp : List Addr), PG (X.blk s H scope (compEnvC scope cl a X.env) fp) tg (tG X.K t) := fun s H a cl fp => cG_ok (C.blk hk' s H a cl fp) 4 h2
        have hf : ∀ (s : Shared) (H : Hp) (a : Addr) (cl : List (Str × Addr)) (fp : List Addr), PE (X.blk s H scope (compEnvC scope cl a X.env) fp) elt (tF X.K f.1) := fun s H a cl fp => (cF_ok (C.blk hk' s H a cl fp) (hr _ _ _ (C.blk hk' s H a cl fp)).1 h3).1
        split at h
        · cases h
          exact ⟨_, _, _, _, rfl, cIP_ok C hE h1, ok, hg, fun s H a cl fp => ptsNil, hf, noSet_of hs, sub⟩
        · rename_i q
          split at h
          · rename_i g hq
            cases h
            exact ⟨_, _, _, _, rfl, cIP_ok C hE h1, ok, hg, fun s H a cl fp => ⟨fun pins s2 σ H2 Q I hh => (pts_one ((hr _ _ _ (C.blk hk' s H a cl fp)).2 _ _ hq)).run pins s2 σ H2 Q I hh⟩, hf, noSet_of hs, sub⟩
          · cases h
        · cases h
      · cases h
    · cases h
  · cases h
theorem xComp_ok (C : Ctx X c sc fnS) (hE : SE X E) (hr : RecOk c rec) {elt tg iter : Expr} {ifs : List Expr} {scope : Scope} {pos : Pos} {r : RE} (h : xComp c sc rec E elt tg iter ifs scope = some r) : PE X (.ListComp elt [⟨tg, iter, ifs, 0⟩] scope pos) (tE X.K r.1) := by
  obtain ⟨it, t, cond, f, e, a1, a2, a3, a4, a5, a6, a7⟩ := xComp_parts C hE hr h
  rw [e]
  exact pComp C.calm C.nd a1 a2 a3 a4 a5 a6 a7
end

/-! ### built-in functions -/
def bFn (x : Str) (n : Nat) : Option OpN :=
  if x = "len" ∧ n = 1 then some dLen else if x = "tuple" ∧ n = 1 then some dTuple else if x = "list" ∧ n = 1 then some dList else if x = "all" ∧ n = 1 then some dAll else if x = "any" ∧ n = 1 then some dAny else if x = "sum" ∧ n = 1 then some dSum
  else if x = "int" ∧ n = 1 then some dInt else if x = "abs" ∧ n = 1 then some dAbs else if x = "max" ∧ n = 2 then some dMax2 else if x = "min" ∧ n = 2 then some dMin2 else if x = "sorted" ∧ n = 1 then some dSorted else none
theorem bFn_ok {X : Cx} {c : Cn} {sc : Scope} {fnS : Str → Bool} {x : Str} {p pos : Pos} {e : Expr} {es : List Expr} {f : OpN} {fs : EL} (C : Ctx X c sc fnS) (h : bFn x (e :: es).length = some f) (hg : glB sc x = true) (hp : (e :: es).all plainE = true) (ha : PA X (e :: es) (tLP X.K fs)) :
    PE X (.Call (.Name x p) (e :: es) [] pos) (tE X.K (eCall f fs)) := by
  have g := glB_of C hg
  have m : x ∈ bNames → X.mg x = none := fun h => C.blt x h
  unfold bFn at h
  split at h
  · rename_i z
    obtain ⟨rfl, _⟩ := z
    cases h
    exact pCallB call_lenX ok_len g (m (by decide)) (by decide +kernel) (by decide) (by decide) hp ha
  split at h
  · rename_i z
    obtain ⟨rfl, _⟩ := z
    cases h
    exact pCallTy call_tuple_of ok_tuple g (m (by decide)) (by decide +kernel) (by decide) (by decide) hp ha
  split at h
  · rename_i z
    obtain ⟨rfl, _⟩ := z
    cases h
    exact pCallTy call_list_of ok_list g (m (by decide)) (by decide +kernel) (by decide) (by decide) hp ha
  split at h
  · rename_i z
    obtain ⟨rfl, _⟩ := z
    cases h
    exact pCallB (cr_all C.calm) ok_all g (m (by decide)) (by decide +kernel) (by decide) (by decide) hp ha
  split at h
  · rename_i z
    obtain ⟨rfl, _⟩ := z
    cases h
    exact pCallB (cr_any C.calm) ok_any g (m (by decide)) (by decide +kernel) (by decide) (by decide) hp ha
  split at h
  · rename_i z
    obtain ⟨rfl, _⟩ := z
    cases h
    exact pCallB (cr_sum C.calm) ok_sum g (m (by decide)) (by decide +kernel) (by decide) (by decide) hp ha
  split at h
  · rename_i z
    obtain ⟨rfl, _⟩ := z
    cases h
    exact pCallTy call_int1 ok_int g (m (by decide)) (by decide +kernel) (by decide) (by decide) hp ha
  split at h
  · rename_i z
    obtain ⟨rfl, _⟩ := z
    cases h
    exact pCallB call_abs ok_abs g (m (by decide)) (by decide +kernel) (by decide) (by decide) hp ha
  split at h
  · rename_i z
    obtain ⟨rfl, _⟩ := z
    cases h
    exact pCallB (call_max2 C.calm) ok_max2 g (m (by decide)) (by decide +kernel) (by decide) (by decide) hp ha
  split at h
  · rename_i z
    obtain ⟨rfl, _⟩ := z
    cases h
    exact pCallB (call_min2 C.calm) ok_min2 g (m (by decide)) (by decide +kernel) (by decide) (by decide) hp ha
  split at h
  · rename_i z
    obtain ⟨rfl, _⟩ := z
    cases h
    exact pCallB (cr_sortedD C.hu) ok_sorted g (m (by decide)) (by decide +kernel) (by decide) (by decide) hp ha
  · cases h

/-! ### calls -/
def xCall2 (c : Cn) (sc : Scope) (E : CE) (x : Str) (es : List Expr) : Option RE := match x == "isinstance", es with
  | true, [a, .Name y _] => if glB sc y then (match isiTy y, cP c sc E a with
      | some T, some r => some (eUn (dIsi T) r.1, r.2)
      | _, _ => none) else none
  | _, [] => none
  | _, e :: es => match bFn x (e :: es).length, cLP c sc E (e :: es) with
    | some f, some r => some (eCall f r.1, r.2)
    | _, _ => none
def xCall (c : Cn) (sc : Scope) (E : CE) (x : Str) (es : List Expr) : Option RE :=
  if glB sc x && okName x then
    match c.fns.lookup x with
    | some en => match cLF c sc E es with
      | some r => if decide (en.ar = es.length) && !es.isEmpty then (if en.lv then some (eOld (eLive (eFn en.F r.1)), r.2) else some (eFn en.F r.1, r.2)) else none
      | none => none
    | none => match es with
      | [.Call (.Name "set" _) [a] [] _] => if glB sc "set" then (if x = "len" then (cP c sc E a).map fun r => (eUn dLenSet r.1, r.2) else if x = "sorted" then (cP c sc E a).map fun r => (eUn dSortSet r.1, r.2) else none) else none
      | [.Call (.Name "range" _) (a :: l) [] _] => if glB sc "range" then (match cLP c sc E (a :: l) with
        | some r => if x = "list" then some (eRngL r.1, r.2) else if x = "tuple" then some (eRngT r.1, r.2) else none
        | none => none) else none
      | es => xCall2 c sc E x es
  else none
theorem xCall_ok {X : Cx} {c : Cn} {sc : Scope} {fnS : Str → Bool} {E : CE} (C : Ctx X c sc fnS) (hE : SE X E) {x : Str} {es : List Expr} {p pos : Pos} {r : RE} (h : xCall c sc E x es = some r) : PE X (.Call (.Name x p) es [] pos) (tE X.K r.1) := by
  unfold xCall at h
  split at h
  · rename_i hc
    rw [Bool.and_eq_true] at hc
    obtain ⟨hg, ho⟩ := hc
    obtain ⟨n1, n2, n3⟩ := okName_of ho
    split at h
    · rename_i en hen
      split at h
      · rename_i q hq
        split at h
        · rename_i hl
          rw [Bool.and_eq_true, decide_eq_true_eq] at hl
          have main : PE X (.Call (.Name x p) es [] pos) (tE X.K (eFn en.F q.1)) := by
            obtain ⟨k, f, fd, ps, G, hr, hm, hk, hb, har⟩ := C.fns x en hen
            obtain ⟨a1, a2, a3⟩ := cLF_ok C hE hq
            cases es with
            | nil => exact absurd hl.2 (by simp)
            | cons e es => exact pFn G hr (glB_of C hg) hm hk hb a1 (by rw [har]; exact hl.1) a3 n1 a2
          split at h
          · cases h
            exact pOld (pLive main)
          · cases h
            exact main
        · cases h
      · cases h
    · split at h
      · rename_i p2 a pos2
        split at h
        · rename_i hs
          split at h
          · rename_i hx
            subst hx
            obtain ⟨q, h1, rfl⟩ := map_some h
            obtain ⟨q1, q2⟩ := cP_ok C hE h1
            exact pLenSet C.calm (glB_of C hg) (C.blt _ (by decide)) (glB_of C hs) (C.blt _ (by decide)) q1 q2
          · split at h
            · rename_i hx
              subst hx
              obtain ⟨q, h1, rfl⟩ := map_some h
              obtain ⟨q1, q2⟩ := cP_ok C hE h1
              exact pSortSet C.calm C.hu (glB_of C hg) (C.blt _ (by decide)) (glB_of C hs) (C.blt _ (by decide)) q1 q2
            · cases h
        · cases h
      · rename_i p2 a l pos2
        split at h
        · rename_i hs
          split at h
          · rename_i q hq
            obtain ⟨q1, q2⟩ := cLP_ok C hE hq
            split at h
            · rename_i hx
              subst hx
              cases h
              exact pRngL C.calm (glB_of C hg) (C.blt _ (by decide)) (glB_of C hs) (C.blt _ (by decide)) q1 q2
            · split at h
              · rename_i hx
                subst hx
                cases h
                exact pRngT C.calm (glB_of C hg) (C.blt _ (by decide)) (glB_of C hs) (C.blt _ (by decide)) q1 q2
              · cases h
          · cases h
        · cases h
      · unfold xCall2 at h
        split at h
        · rename_i a y p2 hx _ _
          split at h
          · rename_i hgy
            split at h
            · rename_i T q hT hq
              cases h
              have ex : x = "isinstance" := eq_of_beq hx
              obtain ⟨b1, b2, b3, b4⟩ := isiTy_ok C hT
              obtain ⟨q1, q2⟩ := cP_ok C hE hq
              exact pIsi (glB_of C hg) (by rw [ex]; exact C.blt _ (by decide)) ex (glB_of C hgy) b1 b2 b3 b4 q2 q1
            · cases h
          · cases h
        · cases h
        · split at h
          · rename_i f q hf hq
            cases h
            obtain ⟨q1, q2⟩ := cLP_ok C hE hq
            exact bFn_ok C hf hg q2 q1
          · cases h
  · cases h

/-! ### the step -/
def cO (c : Cn) (sc : Scope) (E : CE) : Option Expr → Option (EO × List Nat)
  | none => some (eNoP, [])
  | some l => (cP c sc E l).map fun r => (eSomeP r.1, r.2)
def eStep (c : Cn) (sc : Scope) (fnS : Str → Bool) (rec : Rec) (e : Expr) : Option RE :=
  let E := (rec sc fnS).1
  let T := (rec sc fnS).2
  match e with
  | .Constant k _ _ => (cCst k).map fun d => (eOld (eCst d), [])
  | .Name x p => (cF c sc E (.Name x p)).map fun r => (eOld r.1, r.2)
  | .BinOp a op b _ => match bOp op, cP c sc E a, cP c sc E b with
    | some f, some r, some t => some (eOp f r.1 t.1, r.2 ++ t.2)
    | _, _, _ => none
  | .UnaryOp .USub a _ => (cP c sc E a).map fun r => (eUn dNeg r.1, r.2)
  | .UnaryOp .Not a _ => (cP c sc E a).map fun r => (eOld (bVal (eNot (tbV r.1))), r.2)
  | .Compare a [op] [b] _ => match cP c sc E a, cP c sc E b with
    | some r, some t => if behindInMarks op b then none else some (eOp (cOp op) r.1 t.1, r.2 ++ t.2)
    | _, _ => none
  | .Compare a [op, op'] [b, d] _ => match cP c sc E a, cP c sc E b, cP c sc E d with
    | some r, some t, some u => if lastMarks [op, op'] [b, d] then none else some (eChain (cOp op) (cOp op') r.1 t.1 u.1, r.2 ++ (t.2 ++ u.2))
    | _, _, _ => none
  | .BoolOp _ [a] _ => E a
  | .BoolOp .And (a :: b :: l) p => match cF c sc E a, E (.BoolOp .And (b :: l) p) with
    | some r, some t => some (vAnd (tbB r.1) t.1, r.2 ++ t.2)
    | _, _ => none
  | .BoolOp .Or (a :: b :: l) p => match cF c sc E a, E (.BoolOp .Or (b :: l) p) with
    | some r, some t => some (vOr (tbB r.1) t.1, r.2 ++ t.2)
    | _, _ => none
  | .IfExp q a b _ => match T q, E a, E b with
    | some g, some r, some t => some (eIf g.1 r.1 t.1, g.2 ++ (r.2 ++ t.2))
    | _, _, _ => none
  | .Tuple es _ _ => (cLF c sc E es).map fun r => (eTup r.1, r.2)
  | .List es _ => (cLF c sc E es).map fun r => (eLst r.1, r.2)
  | .Subscript a (.Slice none none (some (.UnaryOp .USub (.Constant (.int 1) _ _) _)) _) _ => (cP c sc E a).map fun r => (eUn dRev r.1, r.2)
  | .Subscript a (.Slice lo hi none _) _ => match cP c sc E a, cO c sc E lo, cO c sc E hi with
    | some r, some t, some u => some (eSl r.1 t.1 u.1, r.2 ++ (t.2 ++ u.2))
    | _, _, _ => none
  | .Subscript a b _ => match cP c sc E a, cP c sc E b with
    | some r, some t => if plainIxB b then some (eIxM r.1 t.1, r.2 ++ t.2) else none
    | _, _ => none
  | .ListComp elt [⟨tg, iter, ifs, 0⟩] scope _ => xComp c sc rec E elt tg iter ifs scope
  | .Call (.Name x _) es [] _ => xCall c sc E x es
  | .Call (.Attribute (.Name x p) "index" apos) [e] [] cpos => if apos.endLine == cpos.line then (match cP c sc E (.Name x p), cP c sc E e with
    | some r, some t => some (eOp dIndex r.1 t.1, r.2 ++ t.2)
    | _, _ => none) else none
  | _ => none
def cAnds (T : CT) : List Expr → Option RB
  | [] => none
  | [a] => T a
  | a :: b :: l => match T a, cAnds T (b :: l) with
    | some r, some t => some (eAnd r.1 t.1, r.2 ++ t.2)
    | _, _ => none
def cOrs (T : CT) : List Expr → Option RB
  | [] => none
  | [a] => T a
  | a :: b :: l => match T a, cOrs T (b :: l) with
    | some r, some t => some (eOr r.1 t.1, r.2 ++ t.2)
    | _, _ => none
def tStep (c : Cn) (sc : Scope) (fnS : Str → Bool) (rec : Rec) (e : Expr) : Option RB :=
  let E := (rec sc fnS).1
  let T := (rec sc fnS).2
  match e with
  | .BoolOp .And es _ => cAnds T es
  | .BoolOp .Or es _ => cOrs T es
  | .UnaryOp .Not a _ => (T a).map fun r => (eNot r.1, r.2)
  | .Compare a [op] [b] _ => match cP c sc E a, cP c sc E b with
    | some r, some t => if behindInMarks op b then none else some (tbB (eFz (eOp (cOp op) r.1 t.1)), r.2 ++ t.2)
    | _, _ => none
  | .Compare a [op, op'] [b, d] _ => match cP c sc E a, cP c sc E b, cP c sc E d with
    | some r, some t, some u => if lastMarks [op, op'] [b, d] then none else some (tbB (eFz (eChain (cOp op) (cOp op') r.1 t.1 u.1)), r.2 ++ (t.2 ++ u.2))
    | _, _, _ => none
  | e => if tvB e then (cP c sc E e).map fun r => (tbV r.1, r.2) else none
def cET (c : Cn) : Nat → Rec
  | 0 => fun _ _ => (fun _ => none, fun _ => none)
  | n + 1 => fun sc fnS => (eStep c sc fnS (cET c n), tStep c sc fnS (cET c n))
section
variable {X : Cx} {c : Cn} {sc : Scope} {fnS : Str → Bool} {rec : Rec}
theorem eStep_ok (C : Ctx X c sc fnS) (hr : RecOk c rec) : SE X (eStep c sc fnS rec) := by
  obtain ⟨hE, hT⟩ := hr X sc fnS C
  intro e r h
  unfold eStep at h
  dsimp only at h
  split at h
  · obtain ⟨d, h1, rfl⟩ := map_some h
    exact ⟨pOld (cCst_ok h1), rfl⟩
  · obtain ⟨d, h1, rfl⟩ := map_some h
    exact ⟨pOld (cF_ok C hE h1).1, rfl⟩
  · split at h
    · rename_i h1 h2 h3
      cases h
      obtain ⟨q, a1, a2⟩ := bOp_ok (X := X) h1
      exact ⟨pOp a1 a2 (cP_ok C hE h2).1 (cP_ok C hE h3).1, rfl⟩
    · cases h
  · obtain ⟨d, h1, rfl⟩ := map_some h
    exact ⟨pUn un_neg ok_neg (cP_ok C hE h1).1, rfl⟩
  · obtain ⟨d, h1, rfl⟩ := map_some h
    exact ⟨pOld (pNotT (cP_ok C hE h1).1), rfl⟩
  · split at h
    · rename_i h1 h2
      split at h
      · cases h
      · rename_i hm
        cases h
        obtain ⟨q, a1, a2⟩ := cOp_ok C.hu _
        exact ⟨pCmp a1 a2 (cP_ok C hE h1).1 (cP_ok C hE h2).1 (by simpa using hm), rfl⟩
    · cases h
  · split at h
    · rename_i h1 h2 h3
      split at h
      · cases h
      · rename_i hm
        cases h
        obtain ⟨q, a1, a2⟩ := cOp_ok C.hu _
        obtain ⟨q', b1, b2⟩ := cOp_ok C.hu _
        exact ⟨pChain a1 b1 a2 b2 (cP_ok C hE h1).1 (cP_ok C hE h2).1 (cP_ok C hE h3).1 (by simpa using hm), rfl⟩
    · cases h
  · exact ⟨pe_one (hE _ _ h).1, rfl⟩
  · split at h
    · rename_i h1 h2
      cases h
      exact ⟨pAnd (cF_ok C hE h1).1 (hE _ _ h2).1, rfl⟩
    · cases h
  · split at h
    · rename_i h1 h2
      cases h
      exact ⟨pOr (cF_ok C hE h1).1 (hE _ _ h2).1, rfl⟩
    · cases h
  · split at h
    · rename_i h1 h2 h3
      cases h
      exact ⟨pIf (hT _ _ h1) (hE _ _ h2).1 (hE _ _ h3).1, rfl⟩
    · cases h
  · obtain ⟨d, h1, rfl⟩ := map_some h
    exact ⟨pTup (cLF_ok C hE h1).1, rfl⟩
  · obtain ⟨d, h1, rfl⟩ := map_some h
    exact ⟨pLst (cLF_ok C hE h1).1, rfl⟩
  · obtain ⟨d, h1, rfl⟩ := map_some h
    exact ⟨pRev (cP_ok C hE h1).1, rfl⟩
  · have po : ∀ {o : Option Expr} {t : EO × List Nat}, cO c sc (rec sc fnS).1 o = some t → PO X o (tO X.K t.1) := fun {o t} h => by
      cases o with
      | none =>
        cases h
        exact poNone
      | some l =>
        obtain ⟨d, h1, rfl⟩ := map_some h
        exact poSome (cP_ok C hE h1).1
    split at h
    · rename_i h1 h2 h3
      cases h
      exact ⟨pSl (cP_ok C hE h1).1 (po h2) (po h3), rfl⟩
    · cases h
  · split at h
    · rename_i h1 h2
      split at h
      · rename_i hp
        cases h
        exact ⟨pIxM (cP_ok C hE h1).1 (cP_ok C hE h2).1 (plainIx_of hp), rfl⟩
      · cases h
    · cases h
  · exact ⟨xComp_ok C hE hr h, rfl⟩
  · exact ⟨xCall_ok C hE h, rfl⟩
  · split at h
    · rename_i hl
      split at h
      · rename_i h1 h2
        cases h
        exact ⟨pIndex C.hu (cP_ok C hE h1).1 (cP_ok C hE h2).1 (cP_ok C hE h2).2 rfl hl, rfl⟩
      · cases h
    · cases h
  · cases h
theorem cAnds_ok {T : CT} (hT : ST X T) {pos : Pos} : ∀ {es : List Expr} {r : RB}, cAnds T es = some r → PW X (.BoolOp .And es pos) (tT X.K r.1)
  | [], _, h => by cases h
  | [a], r, h => pw_and1 (hT _ _ h)
  | a :: b :: l, r, h => by
    unfold cAnds at h
    split at h
    · rename_i h1 h2
      cases h
      exact pwAnd (hT _ _ h1) (cAnds_ok hT h2)
    · cases h
theorem cOrs_ok {T : CT} (hT : ST X T) {pos : Pos} : ∀ {es : List Expr} {r : RB}, cOrs T es = some r → PW X (.BoolOp .Or es pos) (tT X.K r.1)
  | [], _, h => by cases h
  | [a], r, h => pw_or1 (hT _ _ h)
  | a :: b :: l, r, h => by
    unfold cOrs at h
    split at h
    · rename_i h1 h2
      cases h
      exact pwOr (hT _ _ h1) (cOrs_ok hT h2)
    · cases h
theorem tStep_ok (C : Ctx X c sc fnS) (hr : RecOk c rec) : ST X (tStep c sc fnS rec) := by
  obtain ⟨hE, hT⟩ := hr X sc fnS C
  intro e r h
  unfold tStep at h
  dsimp only at h
  split at h
  · exact (cAnds_ok hT h).pt
  · exact (cOrs_ok hT h).pt
  · obtain ⟨d, h1, rfl⟩ := map_some h
    exact ptNot (hT _ _ h1)
  · split at h
    · rename_i h1 h2
      split at h
      · cases h
      · rename_i hm
        cases h
        obtain ⟨q, a1, a2⟩ := cOp_ok C.hu _
        exact ptCmp a1 a2 (cP_ok C hE h1).1 (cP_ok C hE h2).1 (by simpa using hm)
    · cases h
  · split at h
    · rename_i h1 h2 h3
      split at h
      · cases h
      · rename_i hm
        cases h
        obtain ⟨q, a1, a2⟩ := cOp_ok C.hu _
        obtain ⟨q', b1, b2⟩ := cOp_ok C.hu _
        exact ptChain a1 b1 a2 b2 (cP_ok C hE h1).1 (cP_ok C hE h2).1 (cP_ok C hE h3).1 (by simpa using hm)
    · cases h
  · split at h
    · rename_i hv
      obtain ⟨d, h1, rfl⟩ := map_some h
      exact ptVal (cP_ok C hE h1).1 (tv_of hv)
    · cases h
theorem cET_ok (c : Cn) : ∀ n, RecOk c (cET c n)
  | 0 => fun X sc fnS _ => ⟨fun e r h => (by cases h), fun e r h => (by cases h)⟩
  | n + 1 => fun X sc fnS C => ⟨eStep_ok C (cET_ok c n), tStep_ok C (cET_ok c n)⟩
end
end R

set_option Elab.async false
set_option linter.all false
set_option maxRecDepth 100000
set_option maxHeartbeats 2000000
/-! R12: statements compiled -/
namespace R
open PySem PySem.Spec PyProof.Rows L2

def noCompB : Expr → Bool
  | .ListComp .. => false
  | .SetComp .. => false
  | .DictComp .. => false
  | _ => true
theorem sw_none {e : Expr} (h : noCompB e = true) {t : Option Expr} {l : Nat} {env : PySem.Env} : swapsWith e t l env = pure false := by
  cases e <;> first | rfl | cases h
theorem sw_tup {e : Expr} {ts : List Expr} {k : Nat} {p : Pos} {l : Nat} {env : PySem.Env} : swapsWith e (some (.Tuple ts k p)) l env = pure false := by
  cases e <;> rfl
theorem sws_tup {e : Expr} {ts : List Expr} {k : Nat} {p : Pos} {l : Nat} {env : PySem.Env} : swapsWithSole [.Tuple ts k p] e l env = pure false := by
  show swapsWith e (some (.Tuple ts k p)) l env = pure false
  exact sw_tup
def isStar : Expr → Bool
  | .Starred .. => true
  | _ => false
/-- the names of a, b = c, d that are stored one by one; none: not covered -/
def swN (sc : Scope) (ts vs : List Expr) : Option (Option (List Str)) :=
  if (!(ts.length == 2 || ts.length == 3) || vs.length != ts.length) = true then some none
  else if (vs.any fun | .Starred .. => true | _ => false) = true then some none
  else
    let line := (ts.head?.map (·.pos.line)).getD 0
    let names := ts.filterMap fun
      | .Name id pos => if (sc.names.lookup id == some .local && pos.line == line) = true then some id else none
      | _ => none
    if (names.length != ts.length || names.eraseDups.length != names.length) = true then some none
    else if vs.all (foldedForSure 8) = true then some none
    else if vs.all (constantsAlone 8) = true then none
    else some (some names)
theorem swN_ok {env : PySem.Env} {ts vs : List Expr} {k k2 : Nat} {p p2 : Pos} {r : Option (List Str)} (hk : env.scope.kind = .function) (h : swN env.scope ts vs = some r) : swappedStores [.Tuple ts k p] (.Tuple vs k2 p2) env = pure r := by
  have hb : env.blockKind = .function := by unfold Env.blockKind; rw [hk]; rfl
  have hkd : ∀ x, env.kindOf x = env.scope.names.lookup x := fun _ => rfl
  unfold swN at h
  unfold swappedStores
  have e1 : (env.blockKind != ScopeKind.function) = false := by rw [hb]; rfl
  simp only [e1, Bool.or_false, hkd]
  split at h
  · rename_i c
    cases h
    simp only [c]
    rfl
  rename_i c1
  rw [Bool.not_eq_true] at c1
  simp only [c1]
  split at h
  · rename_i c
    cases h
    erw [if_pos c]
  rename_i c2
  erw [if_neg c2]
  dsimp only at h
  split at h
  · rename_i c
    cases h
    erw [if_pos c]
  rename_i c3
  erw [if_neg c3]
  split at h
  · rename_i c
    cases h
    simp only [c]
    rfl
  rename_i c4
  rw [Bool.not_eq_true] at c4
  simp only [c4]
  split at h
  · cases h
  rename_i c5
  rw [Bool.not_eq_true] at c5
  simp only [c5]
  cases h
  rfl
def swO (sc : Scope) (ts : List Expr) : Expr → Option (Option (List Str))
  | .Tuple vs _ _ => swN sc ts vs
  | _ => some none
theorem swO_ok {env : PySem.Env} {ts : List Expr} {e : Expr} {k : Nat} {p : Pos} {r : Option (List Str)} (hk : env.scope.kind = .function) (h : swO env.scope ts e = some r) : swappedStores [.Tuple ts k p] e env = pure r := by
  unfold swO at h
  split at h
  · exact swN_ok hk h
  · rename_i hne
    cases h
    cases e <;> first | rfl | exact (hne _ _ _ rfl).elim

theorem sws_sub {a b e : Expr} {p : Pos} {l : Nat} {env : PySem.Env} : swapsWithSole [.Subscript a b p] e l env = pure false := by
  show swapsWith e (some (.Subscript a b p)) l env = pure false
  cases e <;> rfl
theorem asg_sub {o i : Expr} {pos : Pos} {env : PySem.Env} (h : plainIxB i = true) : ∀ v, assign (.Subscript o i pos) env v = (do
      let ov ← holding [v] (eval o env)
      let iv ← holding [v, ov] (eval i env)
      standAt pos
      holding [v, ov, iv] (setItem ov iv v)
      release [v, ov, iv] []) := by
  cases i <;> first | (intro _; rfl) | cases h
theorem swO_sub {a b e : Expr} {p : Pos} {env : PySem.Env} : swappedStores [.Subscript a b p] e env = pure none := by
  cases e <;> rfl
def fzE (c : Cn) (i : Nat) (f : EE) : EE := if c.mu.contains i then f else eOld (eFz f)
theorem tE_fzE {K : PySem.W.Frag} {c : Cn} {i : Nat} {f : EE} {σ : L2.St} {H : Hp} {Q : VK} (h : tE K (fzE c i f) σ H Q) : tE K f σ H Q := by
  unfold fzE at h
  split at h
  · exact h
  · exact tF_of_tE (tE_of_tF h)
def tgB (sc : Scope) (fnS : Str → Bool) (x : Str) : Bool := locB sc x || (celB sc x && fnS x)

/-! ### augmented -/
def sAugI (i : Nat) (f : EP) : ES := fun env M => match env[i]? with
  | some (.fz (.int a)) => match f env M with
    | some (.int b, M1) => some (.nx, env.set i (.fz (.int (a + b))), M1)
    | _ => none
  | _ => none
theorem tAug_of {K : PySem.W.Frag} {i : Nat} {f : EP} {Dd : Ends} {σ : L2.St} {H : Hp} (h : tS K (sAugI i f) Dd σ H) : tAug i (tP K f) (ipI fun i j => i + j) Dd σ H := by
  obtain ⟨W, env, M, fl, env', M', w, re, e, q⟩ := h
  unfold sAugI at e
  split at e
  · rename_i a ha
    split at e
    · rename_i b M1 hf
      cases e
      have y := re.at_ i _ ha
      cases hx : σ[i]? with
      | none =>
        rw [hx] at y
        cases y
      | some x =>
        rw [hx] at y
        cases y with
        | fz r =>
          cases r
          refine ⟨_, hx, W, env, M, .int b, _, w, re, hf, fun v H1 W1 e1 w1 r1 => ?_⟩
          cases r1.int
          refine ⟨_, _, rfl, rfl, ?_⟩
          exact q _ _ W1 e1.s w1 ((re.evo e1).setFz (List.getElem?_eq_some_iff.mp ha).1 (.int _))
    · cases e
  · cases e

/-! ### the step -/
section
variable (c : Cn) (sc : Scope) (fnS : Str → Bool) (rec : Rec)
/-- x = e -/
def sAsgN (x : Str) (px : Pos) (e : Expr) (pos : Pos) : Option ES := match findIx x c.N with
  | none => none
  | some i => if tgB sc fnS x then match e with
    | .ListComp elt [⟨tg, iter, ifs, 0⟩] scope p => match xComp c sc rec (rec sc fnS).1 elt tg iter ifs scope with
      | some r => if locB sc x && px.line == p.line && !(scope.names.any fun (n, k) => n == x && (k == .local || k == .cell)) then some (sPre r.2 (sSet i (fzE c i r.1)))
        else if !(sc.names.lookup x == some .local && px.line == p.line) then some (sPre r.2 (sSet i (fzE c i r.1))) else none
      | none => none
    | .Call (.Attribute (.Name y p2) "pop" apos) [] [] cpos => match slotOf c sc y with
      | some j => if apos.endLine == cpos.line then some (sPop i j) else none
      | none => none
    | e => if noCompB e then (match (rec sc fnS).1 e with
      | some r => some (sPre r.2 (sSet i (fzE c i r.1)))
      | none => none) else none
    else none
/-- a, b = e -/
def sAsgT (ts : List Expr) (k : Nat) (pt : Pos) (e : Expr) (pos : Pos) : Option ES := match swO sc ts e with
  | none => none
  | some none => match cF c sc (rec sc fnS).1 e, cG c sc fnS 4 (.Tuple ts k pt) with
    | some r, some t => some (sPre r.2 (sTup t r.1))
    | _, _ => none
  | some (some ns) => match ts, e with
    | [.Name x _, .Name y _], .Tuple [a, b] _ _ => match findIx x c.N, findIx y c.N, (rec sc fnS).1 a, (rec sc fnS).1 b with
      | some i, some j, some r, some t => if locB sc x && locB sc y && decide (ns = [x, y]) && decide (i ≠ j) then some (sPre (r.2 ++ t.2) (sPar i j (fzE c i r.1) (fzE c j t.1))) else none
      | _, _, _, _ => none
    | _, _ => none
def cBlk (S : Stmt → Option ES) : List Stmt → Option ES
  | [] => some sNx
  | [s] => S s
  | s :: t :: r => match S s, cBlk S (t :: r) with
    | some f, some g => some (sSeq f g)
    | _, _ => none
def sStep (S : Stmt → Option ES) (st : Stmt) : Option ES :=
  let E := (rec sc fnS).1
  let T := (rec sc fnS).2
  match st with
  | .Pass _ => some sNx
  | .Continue _ => some sCt
  | .Break _ => some sBk
  | .Raise _ _ _ => some sNone
  | .Return none _ => some sRetN
  | .Return (some (.Name x p)) _ => match slotOf c sc x with
    | some i => some (sRetV i)
    | none => match E (.Name x p) with
      | some r => some (sPre r.2 (sRet r.1))
      | none => none
  | .Return (some e) _ => match E e with
    | some r => some (sPre r.2 (sRet r.1))
    | none => none
  | .Expr (.Call (.Attribute (.Name x _) "append" apos) [e] [] cpos) _ => match slotOf c sc x, cF c sc E e with
    | some i, some r => if apos.endLine == cpos.line then some (sPre r.2 (sApp i r.1)) else none
    | _, _ => none
  | .Expr (.Call (.Attribute (.Name x _) "extend" apos) [e] [] cpos) _ => match slotOf c sc x, cF c sc E e with
    | some i, some r => if apos.endLine == cpos.line then some (sPre r.2 (sExt i r.1)) else none
    | _, _ => none
  | .Expr e _ => if noCompB e then (match E e with
    | some r => some (sPre r.2 (sEx r.1))
    | none => none) else none
  | .Assign [.Subscript (.Name x p2) i p3] e pos => match slotOf c sc x, cP c sc E i, cF c sc E e with
    | some j, some r, some t => if plainIxB i then some (sPre (r.2 ++ t.2) (sSub j r.1 t.1)) else none
    | _, _, _ => none
  | .Assign [.Name x px] e pos => sAsgN c sc fnS rec x px e pos
  | .Assign [.Tuple ts k pt] e pos => sAsgT c sc fnS rec ts k pt e pos
  | .AugAssign (.Name x _) .Add e _ => match findIx x c.N, cP c sc E e with
    | some i, some r => if tgB sc fnS x then some (sPre r.2 (sAugI i r.1)) else none
    | _, _ => none
  | .If q a b _ => match T q, cBlk S a, cBlk S b with
    | some g, some f, some h => some (sPre g.2 (sIf g.1 f h))
    | _, _, _ => none
  | .For tg iter body [] _ => match cIF c sc E tg iter, cG c sc fnS 4 tg, cBlk S body with
    | some it, some t, some f => if noSet iter then some (sPre it.2 (sFor it.1 t f)) else none
    | _, _, _ => none
  | .While q body [] _ => match T q, cBlk S body with
    | some g, some f => if g.2.isEmpty then some (sWh g.1 f) else none
    | _, _ => none
  | _ => none
def cS : Nat → Stmt → Option ES
  | 0 => fun _ => none
  | n + 1 => sStep c sc fnS rec (cS n)
end
def SS (X : Cx) (S : Stmt → Option ES) : Prop := ∀ st f, S st = some f → PS X st (tS X.K f)
section
variable {X : Cx} {c : Cn} {sc : Scope} {fnS : Str → Bool} {rec : Rec}
theorem pPre {st : Stmt} {is : List Nat} {f : ES} (h : PS X st (tS X.K f)) : PS X st (tS X.K (sPre is f)) := PS.imp h fun _ _ _ => tS_pre
theorem pPre' {st : Stmt} {t : TS} {is : List Nat} {f : ES} (h : PS X st t) (i : ∀ Dd σ H, tS X.K f Dd σ H → t Dd σ H) : PS X st (tS X.K (sPre is f)) := PS.imp h fun _ _ _ q => i _ _ _ (tS_pre q)
theorem sAsgN_ok (C : Ctx X c sc fnS) (hr : RecOk c rec) {x : Str} {px : Pos} {e : Expr} {pos : Pos} {f : ES} (h : sAsgN c sc fnS rec x px e pos = some f) : PS X (.Assign [.Name x px] e pos) (tS X.K f) := by
  obtain ⟨hE, hT⟩ := hr X sc fnS C
  unfold sAsgN at h
  split at h
  · cases h
  rename_i i hi
  have hN : X.N[i]? = some x := by rw [C.n]; exact findIx_some hi
  split at h
  · rename_i ht
    obtain ⟨hloc, hfn⟩ := locs_of C ht
    split at h
    · rename_i elt tg iter ifs scope p
      split at h
      · rename_i r hx
        obtain ⟨it, t, cond, g, e1, a1, a2, a3, a4, a5, a6, a7⟩ := xComp_parts C hE hr hx
        split at h
        · rename_i hc
          cases h
          simp only [Bool.and_eq_true, Bool.not_eq_true'] at hc
          obtain ⟨⟨hl, hline⟩, hn⟩ := hc
          have hyl : X.env.scope.names.lookup x = some .local := by
            rw [C.scope]
            unfold locB at hl
            split at hl
            · assumption
            · cases hl
          refine pPre' (ps_setLc C.calm C.nd hN hyl (sw_true (by rw [C.scope]; exact C.kind) hyl hline hn) a1 a2 a3 a4 a5 a6) fun Dd σ H q => tAsg_of (fun σ H Q q => ?_) q
          have q := tE_fzE q
          rw [e1] at q
          exact tLc_of a7 q
        · split at h
          · rename_i hc
            cases h
            refine pPre' (ps_set C.nd hN hloc (xComp_ok C hE hr hx) ?_ hfn) fun Dd σ H q => tAsg_of (fun σ H Q q => tE_fzE q) q
            have hb : X.env.blockKind = .function := by unfold Env.blockKind; rw [C.scope, C.kind]; rfl
            rw [Bool.not_eq_true', ← C.scope] at hc
            have hc' : (X.env.kindOf x == some .local && px.line == p.line) = false := hc
            unfold swapsWith
            simp only [hb, Expr.pos, Bool.and_assoc, beq_self_eq_true, Bool.true_and]
            simp only [← Bool.and_assoc, hc', Bool.false_and]
          · cases h
      · cases h
    · split at h
      · rename_i j hj
        split at h
        · rename_i hline
          cases h
          obtain ⟨b1, b2, b3, b4⟩ := slotOf_some C hj
          exact sPopS C.nd hN hloc hfn b1 b2 b3 b4 hline
        · cases h
      · cases h
    · split at h
      · rename_i hnc
        split at h
        · rename_i r hx
          cases h
          exact pPre' (ps_set C.nd hN hloc (hE _ _ hx).1 (sw_none hnc) hfn) fun Dd σ H q => tAsg_of (fun σ H Q q => tE_fzE q) q
        · cases h
      · cases h
  · cases h
theorem sAsgT_ok (C : Ctx X c sc fnS) (hr : RecOk c rec) {ts : List Expr} {k : Nat} {pt : Pos} {e : Expr} {pos : Pos} {f : ES} (h : sAsgT c sc fnS rec ts k pt e pos = some f) : PS X (.Assign [.Tuple ts k pt] e pos) (tS X.K f) := by
  obtain ⟨hE, hT⟩ := hr X sc fnS C
  have hk : X.env.scope.kind = .function := by rw [C.scope]; exact C.kind
  unfold sAsgT at h
  split at h
  · cases h
  · rename_i hs
    split at h
    · rename_i r t h1 h2
      cases h
      have hw := swO_ok (env := X.env) (k := k) (p := pt) hk (by rw [C.scope]; exact hs)
      exact pPre' (ps_asg (cF_ok C hE h1).1 (cG_ok C 4 h2) sws_tup hw) fun Dd σ H q => tAsg_tup q
    · cases h
  · rename_i ns hs
    split at h
    · rename_i x px y py a b k2 p2
      split at h
      · rename_i i j r t hi hj h1 h2
        split at h
        · rename_i hc
          cases h
          simp only [Bool.and_eq_true, decide_eq_true_eq] at hc
          obtain ⟨⟨⟨hx, hy⟩, hns⟩, hij⟩ := hc
          have lk : ∀ z, locB sc z = true → X.env.scope.names.lookup z = some .local := fun z hz => by
            rw [C.scope]
            unfold locB at hz
            split at hz
            · assumption
            · cases hz
          have hw := swO_ok (env := X.env) (k := k) (p := pt) hk (by rw [C.scope]; exact hs)
          rw [hns] at hw
          refine pPre' (ps_par C.calm C.nd (by rw [C.n]; exact findIx_some hi) (by rw [C.n]; exact findIx_some hj) hij (lk _ hx) (lk _ hy) (pa_cons (hE _ _ h1).1 (pa_cons (hE _ _ h2).1 pa_nil (star_cons (hE _ _ h2).2)) (star_cons (hE _ _ h1).2)) hw sws_tup) fun Dd σ H q => tPar_of (fun σ H Q q => tE_fzE q) (fun σ H Q q => tE_fzE q) q
        · cases h
      · cases h
    · cases h
theorem cBlk_ok {S : Stmt → Option ES} (hS : SS X S) : ∀ {ss : List Stmt} {f : ES}, cBlk S ss = some f → PSs X ss (tS X.K f)
  | [], f, h => by
    cases h
    exact ssNil
  | [s], f, h => ssOne (hS _ _ h)
  | s :: t :: r, f, h => by
    unfold cBlk at h
    split at h
    · rename_i f g h1 h2
      cases h
      exact ssCons (hS _ _ h1) (cBlk_ok hS h2)
    · cases h
theorem sStep_ok (C : Ctx X c sc fnS) (hr : RecOk c rec) {S : Stmt → Option ES} (hS : SS X S) : SS X (sStep c sc fnS rec S) := by
  obtain ⟨hE, hT⟩ := hr X sc fnS C
  have never : PassesOwn (model X.prog X.w) X.A X.env X.xe := by
    rw [C.xe]
    exact PassesOwn.never
  intro st f h
  unfold sStep at h
  dsimp only at h
  split at h
  · cases h
    exact sPass
  · cases h
    exact sCont
  · cases h
    exact sBreak
  · cases h
    exact sNever
  · cases h
    exact sReturnN
  · split at h
    · rename_i i hi
      cases h
      obtain ⟨b1, b2, b3, b4⟩ := slotOf_some C hi
      exact sReturnV b1 b2 b3 b4
    · split at h
      · rename_i r hx
        cases h
        exact pPre (sReturn (hE _ _ hx).1)
      · cases h
  · split at h
    · rename_i r hx
      cases h
      exact pPre (sReturn (hE _ _ hx).1)
    · cases h
  · split at h
    · rename_i i r hi hx
      split at h
      · rename_i hl
        cases h
        obtain ⟨b1, b2, b3, b4⟩ := slotOf_some C hi
        obtain ⟨q1, q2⟩ := cF_ok C hE hx
        exact pPre (sAppend b1 b2 b3 b4 q1 q2 hl)
      · cases h
    · cases h
  · split at h
    · rename_i i r hi hx
      split at h
      · rename_i hl
        cases h
        obtain ⟨b1, b2, b3, b4⟩ := slotOf_some C hi
        obtain ⟨q1, q2⟩ := cF_ok C hE hx
        exact pPre (sExtend b1 b2 b3 b4 q1 q2 hl)
      · cases h
    · cases h
  · split at h
    · rename_i hn
      split at h
      · rename_i r hx
        cases h
        exact pPre (sExpr (hE _ _ hx).1 (sw_none hn))
      · cases h
    · cases h
  · split at h
    · rename_i j r t hj h1 h2
      split at h
      · rename_i hn
        cases h
        obtain ⟨b1, b2, b3, b4⟩ := slotOf_some C hj
        exact pPre' (ps_asg (cF_ok C hE h2).1 (pg_sub (pe_var b1 b2 b3 b4) (cP_ok C hE h1).1 set_list (asg_sub hn)) sws_sub swO_sub) fun Dd σ H q => tAsg_sub q
      · cases h
    · cases h
  · exact sAsgN_ok C hr h
  · exact sAsgT_ok C hr h
  · split at h
    · rename_i i r hi hx
      split at h
      · rename_i ht
        cases h
        obtain ⟨hloc, hfn⟩ := locs_of C ht
        exact pPre' (ps_aug C.nd (by rw [C.n]; exact findIx_some hi) hloc (cP_ok C hE hx).1 ip_add hfn) fun Dd σ H q => tAug_of q
      · cases h
    · cases h
  · split at h
    · rename_i g f1 f2 hq h1 h2
      cases h
      exact pPre (sIfS (hT _ _ hq) (cBlk_ok hS h1) (cBlk_ok hS h2))
    · cases h
  · split at h
    · rename_i it t g h1 h2 h3
      split at h
      · rename_i hn
        cases h
        exact pPre' (ps_for never C.calm (cIF_ok C hE h1) (cG_ok C 4 h2) (cBlk_ok hS h3) (noSet_of hn)) fun Dd σ H q => tFor_of q
      · cases h
    · cases h
  · split at h
    · rename_i g f1 hq h1
      split at h
      · cases h
        exact PS.imp (ps_while never (hT _ _ hq) (cBlk_ok hS h1)) fun Dd σ H q => tWhile_of q
      · cases h
    · cases h
  · cases h
theorem cS_ok (C : Ctx X c sc fnS) (hr : RecOk c rec) : ∀ n, SS X (cS c sc fnS rec n)
  | 0 => fun _ _ h => (by cases h)
  | n + 1 => sStep_ok C hr (cS_ok C hr n)
end
end R

set_option Elab.async false
set_option linter.all false
set_option maxRecDepth 100000
set_option maxHeartbeats 2000000
/-! R20: defs compiled -/
namespace R
open PySem PySem.Spec PySem.Calls PyProof.Rows L2
def cDef (N : List Str) (fns : List (Str × Entry)) (cst : List (Str × D)) (mu : List Nat) (st : Stmt) : Option ES :=
  cBlk (cS ⟨N, fns, cst, mu⟩ (defScope st) (fun _ => true) (cET ⟨N, fns, cst, mu⟩ 40) 20) (defBody st)
/-- what a module has, for bodies at a level -/
structure Mods (P : Program) (w : World) (K : PySem.W.Frag) (mg : Str → Option Value) (base : Heap) (cst : List (Str × D)) (fns : List (Str × Entry)) (k : Nat) : Prop where
  blt : ∀ x ∈ bNames, mg x = none
  cst : ∀ x d, cst.lookup x = some d → ∃ v u, mg x = some u ∧ RelV v u ∧ ∀ W : Wd, RepW K W v d
  fns : ∀ x e, fns.lookup x = some e → ∃ (f : Addr) (fd : FuncData) (ps : List Str), FnOk P w K mg base CX0 k f fd ps (spF K ps.length e.F) ∧ mg x = some (.ref f) ∧ PySem.W.keepIn K (.ref f) = true ∧ Binds K fd ps [] ∧ ps.length = e.ar
section
variable {P : Program} {w : World} {K : PySem.W.Frag} {mg : Str → Option Value} {base : Heap} {cst : List (Str × D)} {fns : List (Str × Entry)} {k : Nat}
theorem def_ok {x qual : Str} {st : Stmt} {f : Addr} {fd : FuncData} {N ps : List Str} {mu : List Nat} {body : ES} (F : L2.Fun K x qual st f fd) (S : FnScope N ps (defScope st)) (T : Mods P w K mg base cst fns k) (hb : cDef N fns cst mu st = some body) :
    FnOk P w K mg base CX0 (k + 1) f fd ps (spF K ps.length (mkFn N.length body)) := by
  refine ok_def F S fun cdv A outer s H E hr => ?_
  have C : Ctx (cxOf CX0 P w K mg base N qual (defScope st) f cdv A outer s H E).nox ⟨N, fns, cst, mu⟩ (defScope st) (fun _ => true) :=
    { calm := rfl, nd := S.nd, n := rfl, scope := rfl, kind := S.kind, fn := fun _ _ => rfl, xe := rfl
      hu := by have := hr.un; show (A.deeper _).units + 70 < cLine; omega
      blt := T.blt, cst := T.cst
      fns := fun x e h => by
        obtain ⟨f, fd, ps, a1, a2, a3, a4, a5⟩ := T.fns x e h
        exact ⟨k, f, fd, ps, a1, hr, a2, a3, a4, a5⟩ }
  exact cBlk_ok (cS_ok C (cET_ok _ 40) 20) hb
theorem spF_imp {n : Nat} {F G : Fn} (h : ∀ ds M r, G ds M = some r → F ds M = some r) {vs : List V} {H : Hp} {Q : VK} {E : XK} (q : spF K n G vs H Q E) : spF K n F vs H Q E := by
  obtain ⟨hl, W, M, ds, r, M', w, rs, e, z⟩ := q
  exact ⟨hl, W, M, ds, r, M', w, rs, h _ _ _ e, z⟩
/-- a def, told by what it computes -/
theorem def_as {x qual : Str} {st : Stmt} {f : Addr} {fd : FuncData} {N ps : List Str} {mu : List Nat} {body : ES} {G : Fn} (F : L2.Fun K x qual st f fd) (S : FnScope N ps (defScope st)) (T : Mods P w K mg base cst fns k) (hb : cDef N fns cst mu st = some body)
    (h : ∀ ds M r, G ds M = some r → mkFn N.length body ds M = some r) : FnOk P w K mg base CX0 (k + 1) f fd ps (spF K ps.length G) :=
  (def_ok F S T hb).imp fun _ _ _ _ q => spF_imp h q
theorem Mods.mono {j : Nat} (T : Mods P w K mg base cst fns k) (h : k ≤ j) : Mods P w K mg base cst fns j := ⟨T.blt, T.cst, fun x e q => by
  obtain ⟨f, fd, ps, a1, a2⟩ := T.fns x e q
  exact ⟨f, fd, ps, a1.mono h, a2⟩⟩
theorem Mods.nil (b : ∀ x ∈ bNames, mg x = none) : Mods P w K mg base [] [] k := ⟨b, fun x d h => (by cases h), fun x d h => (by cases h)⟩
end
end R

set_option Elab.async false
set_option linter.all false
set_option maxRecDepth 100000
set_option maxHeartbeats 2000000
/-! R21: how compiled bodies run -/
namespace R
open PySem PySem.Spec L2
section
variable {env : Env} {M : List MO}
@[simp] theorem v_sPre0 {f : ES} : sPre [] f = f := rfl
@[simp] theorem v_sPre {i : Nat} {is : List Nat} {f : ES} : sPre (i :: is) f env M = sPre is f (frz1 env i) M := rfl
@[simp] theorem v_frz1 {i : Nat} : frz1 env i = match env[i]? with
  | some (.own d) => env.set i (.fz d)
  | _ => env := rfl
@[simp] theorem v_eFzOld {f : EP} : eFz (eOld f) = f := by
  funext env M
  unfold eFz eOld
  cases f env M <;> rfl
@[simp] theorem v_eFz {f : EE} : eFz f env M = (f env M).map fun r => (r.1.1, r.2) := rfl
@[simp] theorem v_eOld {f : EP} : eOld f env M = (f env M).map fun r => ((r.1, false), r.2) := rfl
@[simp] theorem v_eVar {i : Nat} : eVar i env M = match env[i]? with
  | some (.fz d) => some (d, M)
  | _ => none := rfl
@[simp] theorem v_ePk {i : Nat} : ePk i env M = match env[i]? with
  | some (.fz d) => some (d, M)
  | some (.own d) => some (d, M)
  | _ => none := rfl
@[simp] theorem v_eCst {d : D} : eCst d env M = some (d, M) := rfl
@[simp] theorem v_eOp {f : Op2} {fa fb : EP} : eOp f fa fb env M = match fa env M with
  | some (x, M1) => match fb env M1 with
    | some (y, M2) => (f x y).map fun r => (r, M2)
    | none => none
  | none => none := rfl
@[simp] theorem v_eUn {f : Op1} {fa : EP} : eUn f fa env M = match fa env M with
  | some (x, M1) => (f x).map fun r => (r, M1)
  | none => none := rfl
@[simp] theorem v_eCall {f : OpN} {fs : EL} : eCall f fs env M = match fs env M with
  | some (xs, M1) => (f xs).map fun r => (r, M1)
  | none => none := rfl
@[simp] theorem v_eNil : eNil env M = some ([], M) := rfl
@[simp] theorem v_eCons {f : EP} {g : EL} : eCons f g env M = match f env M with
  | some (x, M1) => match g env M1 with
    | some (xs, M2) => some (x :: xs, M2)
    | none => none
  | none => none := rfl
@[simp] theorem v_eFn {F : Fn} {fs : EL} : eFn F fs env M = match fs env M with
  | some (ds, M1) => F ds M1
  | none => none := rfl
@[simp] theorem v_eTup {f : EL} : eTup f env M = match f env M with
  | some (xs, M1) => if xs.length ≤ LIM then some ((.tup xs, false), M1) else none
  | none => none := rfl
@[simp] theorem v_eLst {f : EL} : eLst f env M = match f env M with
  | some (xs, M1) => if xs.length ≤ LIM then some ((.lst xs, true), M1) else none
  | none => none := rfl
@[simp] theorem v_tbB {f : EP} : tbB f env M = match f env M with
  | some (.bl b, M1) => some (b, M1)
  | _ => none := rfl
@[simp] theorem v_eNot {f : EB} : eNot f env M = (f env M).map fun r => (!r.1, r.2) := rfl
@[simp] theorem v_bVal {f : EB} : bVal f env M = (f env M).map fun r => (.bl r.1, r.2) := rfl
@[simp] theorem v_eIf {c : EB} {f g : EE} : eIf c f g env M = match c env M with
  | some (true, M1) => f env M1
  | some (false, M1) => g env M1
  | none => none := rfl
@[simp] theorem v_eAnd {f g : EB} : eAnd f g env M = match f env M with
  | some (true, M1) => g env M1
  | r => r := rfl
@[simp] theorem v_eOr {f g : EB} : eOr f g env M = match f env M with
  | some (false, M1) => g env M1
  | r => r := rfl
@[simp] theorem v_vAnd {f : EB} {g : EE} : vAnd f g env M = match f env M with
  | some (true, M1) => g env M1
  | some (false, M1) => some ((.bl false, false), M1)
  | none => none := rfl
@[simp] theorem v_vOr {f : EB} {g : EE} : vOr f g env M = match f env M with
  | some (false, M1) => g env M1
  | some (true, M1) => some ((.bl true, false), M1)
  | none => none := rfl
@[simp] theorem v_eChain {f g : Op2} {fa fb fc : EP} : eChain f g fa fb fc env M = match fa env M with
  | some (x, M1) => match fb env M1 with
    | some (y, M2) => match f x y with
      | some (.bl true, false) => match fc env M2 with
        | some (z, M3) => (g y z).map fun r => (r, M3)
        | none => none
      | some (.bl false, false) => some ((.bl false, false), M2)
      | _ => none
    | none => none
  | none => none := rfl
@[simp] theorem v_tbV {f : EP} : tbV f env M = match f env M with
  | some (d, M1) => d.truth.map fun b => (b, M1)
  | none => none := rfl
@[simp] theorem v_eNoP : eNoP env M = some (none, M) := rfl
@[simp] theorem v_eSomeP {f : EP} : eSomeP f env M = match f env M with
  | some (.int i, M1) => some (some i, M1)
  | _ => none := rfl
@[simp] theorem v_eSl {f : EP} {lo hi : EO} : eSl f lo hi env M = match f env M with
  | some (x, M1) => match lo env M1 with
    | some (a, M2) => match hi env M2 with
      | some (b, M3) => (dSl a b x).map fun r => (r, M3)
      | none => none
    | none => none
  | none => none := rfl
@[simp] theorem v_eIxM {fa fb : EP} : eIxM fa fb env M = match fa env M with
  | some (x, M1) => match fb env M1 with
    | some (y, M2) => match x, y with
      | .obj n, .int i => match M2[n]? with
        | some (.lst ds) => (atI ds i).map fun d => ((d, false), M2)
        | _ => none
      | x, y => (dIx x y).map fun r => (r, M2)
    | none => none
  | none => none := rfl
@[simp] theorem v_eLive {f : EE} : eLive f env M = match f env M with
  | some ((.lst ds, true), M') => some (.obj M'.length, M' ++ [.lst ds])
  | _ => none := rfl
@[simp] theorem v_iSeq {f : EP} : iSeq f env M = match f env M with
  | some (d, M1) => (walkD d).map fun xs => (xs, M1)
  | none => none := rfl
@[simp] theorem v_iEnumD {f : EP} : iEnumD f env M = match f env M with
  | some (d, M1) => (seqItems d).map fun xs => (enumD xs, M1)
  | none => none := rfl
@[simp] theorem v_iZipD {fs : EL} : iZipD fs env M = match fs env M with
  | some ([x, y], M1) => match seqItems x, seqItems y with
    | some xs, some ys => some (zipD xs ys, M1)
    | _, _ => none
  | _ => none := rfl
@[simp] theorem v_iRng {fs : EL} : iRng fs env M = match fs env M with
  | some ([.int j], M1) => if rng62 j then some (rints 0 j.toNat, M1) else none
  | some ([.int i, .int j], M1) => if rng62 i && rng62 j then some (rints i (j - i).toNat, M1) else none
  | _ => none := rfl
@[simp] theorem v_eRngL {fs : EL} : eRngL fs env M = match iRng fs env M with
  | some (ds, M1) => if ds.length ≤ 16777216 then some ((.lst ds, true), M1) else none
  | none => none := rfl
@[simp] theorem v_eRngT {fs : EL} : eRngT fs env M = match iRng fs env M with
  | some (ds, M1) => if ds.length ≤ 16777216 then some ((.tup ds, false), M1) else none
  | none => none := rfl
@[simp] theorem v_eComp {vs : List Nat} {it : EI} {tg : Tg} {cond : EB} {elt : EP} : eComp vs it tg cond elt env M = match it env M with
  | some (ds, M1) => match compL (wipeE env vs) tg cond elt ds M1 with
    | some (ys, M2) => if ys.length ≤ LIM then some ((.lst ys, true), M2) else none
    | none => none
  | none => none := rfl
@[simp] theorem v_wipe0 : wipeE env [] = env := rfl
@[simp] theorem v_wipe {v : Nat} {vs : List Nat} : wipeE env (v :: vs) = (wipeE env vs).set v .no := rfl
@[simp] theorem v_eYes : eYes env M = some (true, M) := rfl
@[simp] theorem v_bindN {i : Nat} {d : D} : (Tg.nm i).bind d env = if i < env.length then some (env.set i (.fz d)) else none := rfl
@[simp] theorem v_bindT {ts : List Tg} {ds : List D} : (Tg.tp ts).bind (.tup ds) env = Tg.binds ts ds env := rfl
@[simp] theorem v_binds0 : Tg.binds [] [] env = some env := rfl
@[simp] theorem v_binds {t : Tg} {ts : List Tg} {d : D} {ds : List D} : Tg.binds (t :: ts) (d :: ds) env = match Tg.bind t d env with
  | some e1 => Tg.binds ts ds e1
  | none => none := rfl
@[simp] theorem v_sSet {i : Nat} {f : EE} : sSet i f env M = match f env M with
  | some (r, M') => if i < env.length then some (.nx, putSl env i r, M') else none
  | none => none := rfl
@[simp] theorem v_putF {i : Nat} {d : D} : putSl env i (d, false) = env.set i (.fz d) := rfl
@[simp] theorem v_putT {i : Nat} {d : D} : putSl env i (d, true) = env.set i (.own d) := rfl
@[simp] theorem v_sTup {t : Tg} {f : EP} : sTup t f env M = match f env M with
  | some (d, M') => (t.bind d env).map fun e1 => (.nx, e1, M')
  | none => none := rfl
@[simp] theorem v_sPar {i j : Nat} {f g : EE} : sPar i j f g env M = match f env M with
  | some (r, M1) => match g env M1 with
    | some (t, M2) => if i < env.length ∧ j < env.length ∧ i ≠ j then some (.nx, putSl (putSl env i r) j t, M2) else none
    | none => none
  | none => none := rfl
@[simp] theorem v_sNx : sNx env M = some (.nx, env, M) := rfl
@[simp] theorem v_sCt : sCt env M = some (.ct, env, M) := rfl
@[simp] theorem v_sBk : sBk env M = some (.bk, env, M) := rfl
@[simp] theorem v_sNone : sNone env M = none := rfl
@[simp] theorem v_sEx {f : EE} : sEx f env M = match f env M with
  | some (_, M') => some (.nx, env, M')
  | none => none := rfl
@[simp] theorem v_sRet {f : EE} : sRet f env M = match f env M with
  | some (r, M') => some (.rt r, env, M')
  | none => none := rfl
@[simp] theorem v_sRetN : sRetN env M = some (.rt (.non, false), env, M) := rfl
@[simp] theorem v_sRetV {i : Nat} : sRetV i env M = match env[i]? with
  | some (.fz d) => some (.rt (d, false), env, M)
  | some (.own d) => some (.rt (d, true), env, M)
  | _ => none := rfl
@[simp] theorem v_sSeq {f g : ES} : sSeq f g env M = match f env M with
  | some (.nx, e1, M1) => g e1 M1
  | r => r := rfl
@[simp] theorem v_sIf {c : EB} {f g : ES} : sIf c f g env M = match c env M with
  | some (true, M1) => f env M1
  | some (false, M1) => g env M1
  | none => none := rfl
@[simp] theorem v_sFor {it : EI} {t : Tg} {body : ES} : sFor it t body env M = match it env M with
  | some (ds, M1) => forL t body ds env M1
  | none => none := rfl
@[simp] theorem v_sAugI {i : Nat} {f : EP} : sAugI i f env M = match env[i]? with
  | some (.fz (.int a)) => match f env M with
    | some (.int b, M1) => some (.nx, env.set i (.fz (.int (a + b))), M1)
    | _ => none
  | _ => none := rfl
@[simp] theorem v_sApp {i : Nat} {f : EP} {ds : List D} (h : env[i]? = some (.own (.lst ds))) : sApp i f env M = match f env M with
  | some (d, M') => if ds.length < LIM then some (.nx, env.set i (.own (.lst (ds ++ [d]))), M') else none
  | none => none := by
  unfold sApp
  rw [h]
  all_goals rfl
theorem v_sSub {i : Nat} {fi fe : EP} : sSub i fi fe env M = match fe env M with
  | some (d, M1) => match env[i]? with
    | some (.fz (.obj n)) => match fi env M1 with
      | some (.int k, M2) => match M2[n]? with
        | some (.lst ds) => match ixN ds.length k with
          | some j => some (.nx, env, M2.set n (.lst (ds.set j d)))
          | none => none
        | _ => none
      | _ => none
    | some (.own (.lst ds)) => match fi env M1 with
      | some (.int k, M2) => match ixN ds.length k with
        | some j => some (.nx, env.set i (.own (.lst (ds.set j d))), M2)
        | none => none
      | _ => none
    | _ => none
  | none => none := rfl
end
/-! values -/
@[simp] theorem w_addI {a b : Int} : dAdd (.int a) (.int b) = some (.int (a + b), false) := rfl
@[simp] theorem w_subI {a b : Int} : dSub (.int a) (.int b) = some (.int (a - b), false) := rfl
theorem w_mulI {a b : Int} (h : (-(2 ^ 64) < a ∧ a < 2 ^ 64) ∨ (-(2 ^ 64) < b ∧ b < 2 ^ 64)) : dMul (.int a) (.int b) = some (.int (a * b), false) := if_pos h
theorem w_divI {a b : Int} (h : 0 < b ∧ b < 1073741824) : dDiv (.int a) (.int b) = some (.int (a / b), false) := if_pos h
theorem w_modI {a b : Int} (h : 0 < b) : dMod (.int a) (.int b) = some (.int (a % b), false) := if_pos h
theorem w_addT {a b : List D} (h : a.length + b.length ≤ LIM) : dAdd (.tup a) (.tup b) = some (.tup (a ++ b), false) := if_pos h
theorem w_addL {a b : List D} (h : a.length + b.length ≤ LIM) : dAdd (.lst a) (.lst b) = some (.lst (a ++ b), true) := if_pos h
@[simp] theorem w_ltI {a b : Int} : dLt (.int a) (.int b) = some (.bl (decide (a < b)), false) := rfl
@[simp] theorem w_leI {a b : Int} : dLe (.int a) (.int b) = some (.bl (decide (a ≤ b)), false) := rfl
@[simp] theorem w_gtI {a b : Int} : dGt (.int a) (.int b) = some (.bl (decide (b < a)), false) := rfl
@[simp] theorem w_geI {a b : Int} : dGe (.int a) (.int b) = some (.bl (decide (b ≤ a)), false) := rfl
@[simp] theorem w_eqI {a b : Int} : dEq (.int a) (.int b) = some (.bl (decide (a = b)), false) := by
  unfold dEq
  rw [if_pos (by rfl)]
  unfold D.eqv D.py PyData.eqv
  by_cases h : a = b
  · simp [h]
  · simp [h]
@[simp] theorem w_neI {a b : Int} : dNe (.int a) (.int b) = some (.bl (!decide (a = b)), false) := by
  have h := @w_eqI a b
  unfold dEq at h
  unfold dNe
  rw [if_pos (by rfl)] at h ⊢
  have h2 := Option.some.inj h
  have h3 := D.bl.inj (congrArg (·.1) h2)
  rw [h3]
@[simp] theorem w_lenT {xs : List D} : dLen [.tup xs] = some (.int (xs.length : Nat), false) := rfl
@[simp] theorem w_lenL {xs : List D} : dLen [.lst xs] = some (.int (xs.length : Nat), false) := rfl
@[simp] theorem w_lenS {xs : List D} : dLen [.scr xs] = some (.int (xs.length : Nat), false) := rfl
@[simp] theorem w_tupT {xs : List D} : dTuple [.tup xs] = some (.tup xs, false) := rfl
@[simp] theorem w_tupL {xs : List D} : dTuple [.lst xs] = some (.tup xs, false) := rfl
@[simp] theorem w_lstT {xs : List D} : dList [.tup xs] = some (.lst xs, true) := rfl
@[simp] theorem w_lstL {xs : List D} : dList [.lst xs] = some (.lst xs, true) := rfl
@[simp] theorem w_lstS {xs : List D} : dList [.scr xs] = some (.lst xs, true) := rfl
@[simp] theorem w_intI {a : Int} : dInt [.int a] = some (.int a, false) := rfl
@[simp] theorem w_absI {a : Int} : dAbs [.int a] = some (.int (if a < 0 then -a else a), false) := rfl
@[simp] theorem w_max {a b : Int} : dMax2 [.int a, .int b] = some (.int (if b > a then b else a), false) := rfl
@[simp] theorem w_min {a b : Int} : dMin2 [.int a, .int b] = some (.int (if b < a then b else a), false) := rfl
@[simp] theorem w_seqT {xs : List D} : seqItems (.tup xs) = some xs := rfl
@[simp] theorem w_seqL {xs : List D} : seqItems (.lst xs) = some xs := rfl
@[simp] theorem w_seqS {xs : List D} : seqItems (.scr xs) = some xs := rfl
@[simp] theorem w_wkT {xs : List D} : walkD (.tup xs) = some xs := rfl
@[simp] theorem w_wkL {xs : List D} : walkD (.lst xs) = some xs := rfl
@[simp] theorem w_wkS {xs : List D} : walkD (.scr xs) = some xs := rfl
@[simp] theorem w_wkC {s : Str} : walkD (.str s) = some (chars s) := rfl
@[simp] theorem w_trB {b : Bool} : (D.bl b).truth = some b := rfl
@[simp] theorem w_trI {b : Int} : (D.int b).truth = some (b != 0) := rfl
@[simp] theorem w_trT {b : List D} : (D.tup b).truth = some (!b.isEmpty) := rfl
@[simp] theorem w_trL {b : List D} : (D.lst b).truth = some (!b.isEmpty) := rfl
@[simp] theorem w_sl {lo hi : Option Int} {xs : List D} : dSl lo hi (.tup xs) = some (.tup (cutD xs lo hi), false) := rfl
@[simp] theorem w_slL {lo hi : Option Int} {xs : List D} : dSl lo hi (.lst xs) = some (.lst (cutD xs lo hi), true) := rfl
@[simp] theorem w_slS {lo hi : Option Int} {xs : List D} : dSl lo hi (.scr xs) = some (.lst (cutD xs lo hi), true) := rfl
@[simp] theorem w_revT {xs : List D} : dRev (.tup xs) = some (.tup xs.reverse, false) := rfl
@[simp] theorem w_revL {xs : List D} : dRev (.lst xs) = some (.lst xs.reverse, true) := rfl
@[simp] theorem w_ixT {xs : List D} {i : Int} : dIx (.tup xs) (.int i) = (atI xs i).map fun d => (d, false) := rfl
@[simp] theorem w_ixL {xs : List D} {i : Int} : dIx (.lst xs) (.int i) = (atI xs i).map fun d => (d, false) := rfl
@[simp] theorem w_ixS {xs : List D} {i : Int} : dIx (.scr xs) (.int i) = (atI xs i).map fun d => (d, false) := rfl
@[simp] theorem w_isiII {i : Int} : dIsi "int" (.int i) = some (.bl true, false) := rfl
@[simp] theorem w_isiIB {i : Int} : dIsi "bool" (.int i) = some (.bl false, false) := rfl
@[simp] theorem w_isiTT {i : List D} : dIsi "tuple" (.tup i) = some (.bl true, false) := rfl
@[simp] theorem w_isiSS {i : Str} : dIsi "str" (.str i) = some (.bl true, false) := rfl
/-! comprehensions -/
theorem comp_map {env : Env} {tg : Tg} {cond : EB} {elt : EP} {M : List MO} (p : D → Bool) (f : D → D) : ∀ {ds : List D}, (∀ d ∈ ds, ∃ e1, tg.bind d env = some e1 ∧ cond e1 M = some (p d, M) ∧ (p d = true → elt e1 M = some (f d, M))) →
    compL env tg cond elt ds M = some ((ds.filter p).map f, M)
  | [], _ => rfl
  | d :: ds, h => by
    obtain ⟨e1, h1, h2, h3⟩ := h d (List.mem_cons_self ..)
    have ih := comp_map p f (ds := ds) fun x hx => h x (List.mem_cons_of_mem _ hx)
    unfold compL
    rw [h1]
    dsimp only
    rw [h2]
    cases hp : p d with
    | true =>
      dsimp only
      rw [h3 hp]
      dsimp only
      rw [ih, List.filter_cons_of_pos hp]
      rfl
    | false =>
      dsimp only
      rw [ih, List.filter_cons_of_neg (by rw [hp]; exact Bool.false_ne_true)]
/-- a loop by what stays true -/
theorem forL_inv {t : Tg} {body : ES} (I : List D → Env → List MO → Prop) : ∀ {ds : List D} {env : Env} {M : List MO}, I ds env M →
    (∀ d r env M, I (d :: r) env M → ∃ e1 e2 M2, t.bind d env = some e1 ∧ (body e1 M = some (.nx, e2, M2) ∨ body e1 M = some (.ct, e2, M2)) ∧ I r e2 M2) → ∃ env' M', forL t body ds env M = some (.nx, env', M') ∧ I [] env' M'
  | [], env, M, h, _ => ⟨env, M, rfl, h⟩
  | d :: ds, env, M, h, st => by
    obtain ⟨e1, e2, M2, h1, h2, h3⟩ := st d ds env M h
    obtain ⟨env', M', h4, h5⟩ := forL_inv I h3 st
    refine ⟨env', M', ?_, h5⟩
    unfold forL
    rw [h1]
    dsimp only
    rcases h2 with h2 | h2 <;> rw [h2] <;> exact h4
end R

set_option Elab.async false
set_option linter.all false
set_option maxRecDepth 100000
set_option maxHeartbeats 2000000
/-! R22: plain data -/
namespace R
open PySem PySem.Spec L2
abbrev dI (xs : List Int) : List D := xs.map .int
abbrev iT (xs : List Int) : D := .tup (dI xs)
abbrev iL (xs : List Int) : D := .lst (dI xs)
mutual
/-- whole numbers, texts, None, tuples and lists of these -/
def D.pl : D → Bool
  | .non => true | .bl _ => false | .int _ => true | .str _ => true
  | .tup xs => D.pls xs
  | .lst xs => D.pls xs
  | .scr _ => false
  | .dct _ _ => false
  | .obj _ => false
def D.pls : List D → Bool
  | [] => true
  | x :: xs => D.pl x && D.pls xs
end
mutual
theorem D.pl_pure : ∀ {d : D}, d.pl = true → d.pure = true
  | .non, _ => rfl
  | .int _, _ => rfl
  | .str _, _ => rfl
  | .tup xs, h => D.pls_pure (ds := xs) (by simpa [D.pl] using h)
  | .lst xs, h => D.pls_pure (ds := xs) (by simpa [D.pl] using h)
  | .bl _, h => by simp [D.pl] at h
  | .scr _, h => by simp [D.pl] at h
  | .dct _ _, h => by simp [D.pl] at h
  | .obj _, h => by simp [D.pl] at h
theorem D.pls_pure : ∀ {ds : List D}, D.pls ds = true → D.pures ds = true
  | [], _ => rfl
  | d :: ds, h => by
    rw [D.pls, Bool.and_eq_true] at h
    rw [D.pures, Bool.and_eq_true]
    exact ⟨D.pl_pure h.1, D.pls_pure h.2⟩
end
mutual
theorem D.eqv_iff : ∀ {d e : D}, d.pl = true → e.pl = true → (PyData.eqv d.py e.py = true ↔ d = e)
  | .non, e, _, h => by cases e <;> simp [D.pl, D.py, PyData.eqv] at h ⊢
  | .int i, e, _, h => by cases e <;> simp [D.pl, D.py, PyData.eqv] at h ⊢
  | .str s, e, _, h => by cases e <;> simp [D.pl, D.py, PyData.eqv] at h ⊢
  | .tup xs, .tup ys, h, h' => by
    rw [D.py, D.py, PyData.eqv, D.eqvs_iff (by simpa [D.pl] using h) (by simpa [D.pl] using h')]
    exact ⟨fun e => by rw [e], fun e => D.tup.inj e⟩
  | .lst xs, .lst ys, h, h' => by
    rw [D.py, D.py, PyData.eqv, D.eqvs_iff (by simpa [D.pl] using h) (by simpa [D.pl] using h')]
    exact ⟨fun e => by rw [e], fun e => D.lst.inj e⟩
  | .tup xs, .lst ys, h, h' => by simp [D.py, PyData.eqv]
  | .lst xs, .tup ys, h, h' => by simp [D.py, PyData.eqv]
  | .tup xs, .non, h, h' => by simp [D.py, PyData.eqv]
  | .tup xs, .int _, h, h' => by simp [D.py, PyData.eqv]
  | .tup xs, .str _, h, h' => by simp [D.py, PyData.eqv]
  | .lst xs, .non, h, h' => by simp [D.py, PyData.eqv]
  | .lst xs, .int _, h, h' => by simp [D.py, PyData.eqv]
  | .lst xs, .str _, h, h' => by simp [D.py, PyData.eqv]
  | .tup _, .bl _, _, h => by simp [D.pl] at h
  | .tup _, .scr _, _, h => by simp [D.pl] at h
  | .tup _, .dct _ _, _, h => by simp [D.pl] at h
  | .tup _, .obj _, _, h => by simp [D.pl] at h
  | .lst _, .bl _, _, h => by simp [D.pl] at h
  | .lst _, .scr _, _, h => by simp [D.pl] at h
  | .lst _, .dct _ _, _, h => by simp [D.pl] at h
  | .lst _, .obj _, _, h => by simp [D.pl] at h
  | .bl _, _, h, _ => by simp [D.pl] at h
  | .scr _, _, h, _ => by simp [D.pl] at h
  | .dct _ _, _, h, _ => by simp [D.pl] at h
  | .obj _, _, h, _ => by simp [D.pl] at h
theorem D.eqvs_iff : ∀ {ds es : List D}, D.pls ds = true → D.pls es = true → (PyData.eqvAll (D.pys ds) (D.pys es) = true ↔ ds = es)
  | [], [], _, _ => by simp [D.pys, PyData.eqvAll]
  | [], _ :: _, _, _ => by simp [D.pys, PyData.eqvAll]
  | _ :: _, [], _, _ => by simp [D.pys, PyData.eqvAll]
  | d :: ds, e :: es, h, h' => by
    rw [D.pls, Bool.and_eq_true] at h h'
    rw [D.pys, D.pys, PyData.eqvAll, Bool.and_eq_true, D.eqv_iff h.1 h'.1, D.eqvs_iff h.2 h'.2, List.cons.injEq]
end
theorem D.okEq_pl {d e : D} (h : d.pl = true) (h' : e.pl = true) (hd : d.depth ≤ 64) : d.okEq e = true := by
  unfold D.okEq
  rw [D.pl_pure h, D.pl_pure h']
  simp only [Bool.true_and, decide_eq_true_eq]
  omega
theorem dEq_same {d : D} (h : d.pl = true) (hd : d.depth ≤ 64) : dEq d d = some (.bl true, false) := by
  unfold dEq
  rw [if_pos (D.okEq_pl h h hd)]
  have z : d.eqv d = true := (D.eqv_iff h h).mpr rfl
  rw [z]
theorem dNe_same {d : D} (h : d.pl = true) (hd : d.depth ≤ 64) : dNe d d = some (.bl false, false) := by
  unfold dNe
  rw [if_pos (D.okEq_pl h h hd)]
  have z : d.eqv d = true := (D.eqv_iff h h).mpr rfl
  rw [z]
  rfl
theorem dEq_pl {d e : D} {p : Prop} [Decidable p] (h : d.pl = true) (h' : e.pl = true) (hd : d.depth ≤ 64) (hp : d = e ↔ p) : dEq d e = some (.bl (decide p), false) := by
  unfold dEq
  rw [if_pos (D.okEq_pl h h' hd)]
  have z : d.eqv e = decide p := by
    have q : d.eqv e = true ↔ p := (D.eqv_iff h h').trans hp
    by_cases r : p
    · rw [decide_eq_true r]
      exact q.mpr r
    · rw [decide_eq_false r]
      exact Bool.eq_false_iff.mpr fun y => r (q.mp y)
  rw [z]
theorem dNe_pl {d e : D} {p : Prop} [Decidable p] (h : d.pl = true) (h' : e.pl = true) (hd : d.depth ≤ 64) (hp : d = e ↔ p) : dNe d e = some (.bl (!decide p), false) := by
  have z := dEq_pl h h' hd hp
  unfold dEq at z
  unfold dNe
  rw [if_pos (D.okEq_pl h h' hd)] at z ⊢
  have z2 := D.bl.inj (congrArg (·.1) (Option.some.inj z))
  rw [z2]
/-! rows of whole numbers -/
theorem pls_int : ∀ xs : List Int, D.pls (dI xs) = true
  | [] => rfl
  | _ :: xs => pls_int xs
theorem depths_int : ∀ xs : List Int, D.depths (dI xs) = 0
  | [] => rfl
  | _ :: xs => by
    show max 0 (D.depths (dI xs)) = 0
    rw [depths_int xs]
    rfl
theorem pl_tI (xs : List Int) : (iT xs).pl = true := pls_int xs
theorem pl_lI (xs : List Int) : (iL xs).pl = true := pls_int xs
theorem depth_tI (xs : List Int) : (iT xs).depth = 1 := by
  show D.depths (dI xs) + 1 = 1
  rw [depths_int]
theorem depth_lI (xs : List Int) : (iL xs).depth = 1 := by
  show D.depths (dI xs) + 1 = 1
  rw [depths_int]
theorem dI_inj {a b : List Int} : dI a = dI b ↔ a = b := ⟨fun h => (List.map_inj_right fun x y h => D.int.inj h).mp h, fun h => by rw [h]⟩
theorem pls_all {ds : List D} (h : ∀ d ∈ ds, d.pl = true) : D.pls ds = true := by
  induction ds with
  | nil => rfl
  | cons d ds ih =>
    rw [D.pls, h d (List.mem_cons_self ..), ih fun x hx => h x (List.mem_cons_of_mem _ hx)]
    rfl
theorem depths_le {ds : List D} {n : Nat} (h : ∀ d ∈ ds, d.depth ≤ n) : D.depths ds ≤ n := by
  induction ds with
  | nil => exact Nat.zero_le _
  | cons d ds ih =>
    rw [D.depths]
    exact Nat.max_le.mpr ⟨h d (List.mem_cons_self ..), ih fun x hx => h x (List.mem_cons_of_mem _ hx)⟩
theorem w_neT {a b : List Int} : dNe (iT a) (iT b) = some (.bl (!decide (a = b)), false) := dNe_pl (pl_tI a) (pl_tI b) (by rw [depth_tI]; decide) ⟨fun h => dI_inj.mp (D.tup.inj h), fun h => by rw [h]⟩
theorem w_eqT {a b : List Int} : dEq (iT a) (iT b) = some (.bl (decide (a = b)), false) := dEq_pl (pl_tI a) (pl_tI b) (by rw [depth_tI]; decide) ⟨fun h => dI_inj.mp (D.tup.inj h), fun h => by rw [h]⟩
theorem w_neL {a b : List Int} : dNe (iL a) (iL b) = some (.bl (!decide (a = b)), false) := dNe_pl (pl_lI a) (pl_lI b) (by rw [depth_lI]; decide) ⟨fun h => dI_inj.mp (D.lst.inj h), fun h => by rw [h]⟩
theorem w_eqL {a b : List Int} : dEq (iL a) (iL b) = some (.bl (decide (a = b)), false) := dEq_pl (pl_lI a) (pl_lI b) (by rw [depth_lI]; decide) ⟨fun h => dI_inj.mp (D.lst.inj h), fun h => by rw [h]⟩
theorem has_int {c : Int} : ∀ {xs : List Int}, (D.int c).has (dI xs) = decide (c ∈ xs)
  | [] => rfl
  | x :: xs => by
    show ((D.int x).eqv (.int c) || (D.int c).has (dI xs)) = _
    rw [has_int]
    have z : (D.int x).eqv (.int c) = decide (c = x) := by
      by_cases h : c = x
      · rw [decide_eq_true h]
        exact (D.eqv_iff (d := .int x) (e := .int c) rfl rfl).mpr (by rw [h])
      · rw [decide_eq_false h]
        exact Bool.eq_false_iff.mpr fun y => h (D.int.inj ((D.eqv_iff (d := .int x) (e := .int c) rfl rfl).mp y)).symm
    rw [z]
    simp only [List.mem_cons, Bool.decide_or]
theorem okIn_int {c : Int} {xs : List Int} : (D.int c).okIn (dI xs) = true := by
  unfold D.okIn
  rw [D.pls_pure (pls_int xs), depths_int]
  rfl
theorem w_inL {c : Int} {xs : List Int} : dIn false (.int c) (iL xs) = some (.bl (decide (c ∈ xs)), false) := by
  show (if (D.int c).okIn (dI xs) then some (D.bl ((D.int c).has (dI xs)), false) else none) = _
  rw [if_pos okIn_int, has_int]
theorem w_inT {c : Int} {xs : List Int} : dIn false (.int c) (iT xs) = some (.bl (decide (c ∈ xs)), false) := by
  show (if (D.int c).okIn (dI xs) then some (D.bl ((D.int c).has (dI xs)), false) else none) = _
  rw [if_pos okIn_int, has_int]
theorem w_niL {c : Int} {xs : List Int} : dIn true (.int c) (iL xs) = some (.bl (!decide (c ∈ xs)), false) := by
  show (if (D.int c).okIn (dI xs) then some (D.bl (!(D.int c).has (dI xs)), false) else none) = _
  rw [if_pos okIn_int, has_int]
theorem w_niT {c : Int} {xs : List Int} : dIn true (.int c) (iT xs) = some (.bl (!decide (c ∈ xs)), false) := by
  show (if (D.int c).okIn (dI xs) then some (D.bl (!(D.int c).has (dI xs)), false) else none) = _
  rw [if_pos okIn_int, has_int]
theorem ixOf_int {c : Int} : ∀ {xs : List Int}, c ∈ xs → (D.int c).ixOf (dI xs) = some (xs.idxOf c)
  | x :: xs, h => by
    show (if (D.int x).eqv (.int c) then some 0 else ((D.int c).ixOf (dI xs)).map (· + 1)) = _
    by_cases e : x = c
    · have z : (D.int x).eqv (.int c) = true := (D.eqv_iff (d := .int x) (e := .int c) rfl rfl).mpr (by rw [e])
      rw [if_pos z, e, List.idxOf_cons_self]
    · have z : ¬ (D.int x).eqv (.int c) = true := fun y => e (D.int.inj ((D.eqv_iff (d := .int x) (e := .int c) rfl rfl).mp y))
      have hm : c ∈ xs := by
        rcases List.mem_cons.mp h with h | h
        · exact absurd h.symm e
        · exact h
      rw [if_neg z, ixOf_int hm, List.idxOf_cons]
      have z2 : (x == c) = false := beq_eq_false_iff_ne.mpr e
      rw [z2]
      rfl
theorem w_index {c : Int} {xs : List Int} (h : c ∈ xs) : dIndex (iL xs) (.int c) = some (.int (xs.idxOf c : Nat), false) := by
  show (if ((D.int c).pure && D.pures (dI xs) && decide (D.depths (dI xs) < 64) && decide ((D.int c).depth ≤ 64)) = true then ((D.int c).ixOf (dI xs)).map fun j => (D.int (j : Nat), false) else none) = _
  rw [D.pls_pure (pls_int xs), depths_int, if_pos (by rfl), ixOf_int h]
  rfl
theorem le_int (a b : Int) : D.le (.int a) (.int b) = leI a b := congrFun (congrFun (PySem.W.dataLe_int (fun b : Int => b)) a) b
theorem le_tup (a b : List Int) : D.le (iT a) (iT b) = decide (a ≤ b) := by
  show (!PySem.W.dataLt (D.py (iT b)) (D.py (iT a))) = _
  have e : ∀ a : List Int, D.py (iT a) = .tuple (a.map .int) := fun a => by
    rw [D.py, pys_map, List.map_map]
    rfl
  rw [e, e, PySem.W.dataLt_tuple]
  show (!PySem.W.rowLt (b.map .int) (a.map .int)) = _
  rw [PySem.W.dataLt_ints]
  by_cases h : b < a
  · have h' : ¬ a ≤ b := fun r => List.not_lt.mpr r h
    simp [h, h']
  · have h' : a ≤ b := List.not_lt.mp h
    simp [h, h']
theorem sort_int {xs : List Int} : sortD (dI xs) = some (iL (xs.mergeSort leI), true) := by
  unfold sortD
  have hc : sortC (dI xs) = true := by
    unfold sortC
    have h1 : D.alikeB (dI xs) = true := List.all_eq_true.mpr fun d hd => List.all_eq_true.mpr fun e he => by
      obtain ⟨x, _, rfl⟩ := List.mem_map.mp hd
      obtain ⟨y, _, rfl⟩ := List.mem_map.mp he
      rfl
    have h2 : D.sortB (dI xs) = true := by
      unfold D.sortB
      rw [Bool.or_eq_true]
      refine .inr (List.all_eq_true.mpr fun d hd => ?_)
      obtain ⟨x, _, rfl⟩ := List.mem_map.mp hd
      rfl
    have h3 : ((dI xs).all fun d => d.pure && decide (d.depth ≤ 64)) = true := List.all_eq_true.mpr fun d hd => by
      obtain ⟨x, _, rfl⟩ := List.mem_map.mp hd
      rfl
    rw [h1, h2, h3]
    simp
  rw [if_pos hc]
  have e := List.map_mergeSort (r := leI) (s := D.le) (f := D.int) (l := xs) (fun a _ b _ => (le_int a b).symm)
  rw [← e]
theorem w_sortL {xs : List Int} : dSorted [iL xs] = some (iL (xs.mergeSort leI), true) := sort_int
theorem w_sortT {xs : List Int} : dSorted [iT xs] = some (iL (xs.mergeSort leI), true) := sort_int
/-- rows that rise already -/
theorem sort_rows {xs : List (List Int)} (h : xs.Pairwise fun a b => a < b) (hn : ∀ x ∈ xs, x ≠ [] ∨ xs.length < 2) : sortD (xs.map iT) = some (.lst (xs.map iT), true) := by
  unfold sortD
  have hc : sortC (xs.map iT) = true := by
    unfold sortC
    by_cases hl : xs.length < 2
    · rw [List.length_map, decide_eq_true hl]
      rfl
    have h1 : D.alikeB (xs.map iT) = true := List.all_eq_true.mpr fun d hd => List.all_eq_true.mpr fun e he => by
      obtain ⟨x, _, rfl⟩ := List.mem_map.mp hd
      obtain ⟨y, _, rfl⟩ := List.mem_map.mp he
      show PySem.W.alike (.tuple (D.pys (dI x))) (.tuple (D.pys (dI y))) = true
      rw [PySem.W.alike]
      have key : ∀ x y : List Int, PySem.W.alikeAll (D.pys (dI x)) (D.pys (dI y)) = true := fun x => by
        induction x with
        | nil => exact fun y => by simp [D.pys, PySem.W.alikeAll]
        | cons a x ih =>
          intro y
          cases y with
          | nil => simp [D.pys, PySem.W.alikeAll]
          | cons b y =>
            show (PySem.W.alike (.int a) (.int b) && PySem.W.alikeAll (D.pys (dI x)) (D.pys (dI y))) = true
            rw [ih y]
            rfl
      exact key x y
    have h2 : D.sortB (xs.map iT) = true := by
      unfold D.sortB
      rw [Bool.or_eq_true]
      refine .inl (List.all_eq_true.mpr fun d hd => ?_)
      obtain ⟨x, hx, rfl⟩ := List.mem_map.mp hd
      rcases hn x hx with z | z
      · cases x with
        | nil => exact absurd rfl z
        | cons a x => rfl
      · exact absurd z hl
    have h3 : ((xs.map iT).all fun d => d.pure && decide (d.depth ≤ 64)) = true := List.all_eq_true.mpr fun d hd => by
      obtain ⟨x, _, rfl⟩ := List.mem_map.mp hd
      rw [D.pl_pure (pl_tI x), depth_tI]
      rfl
    rw [h1, h2, h3]
    simp
  rw [if_pos hc]
  have e : (xs.map iT).mergeSort D.le = xs.map iT := List.mergeSort_of_pairwise (List.pairwise_map.mpr (h.imp fun {a b} h => by
    show D.le (iT a) (iT b) = true
    rw [le_tup]
    exact decide_eq_true (List.le_of_lt h)))
  rw [e]
/-! slices -/
theorem cut_take {α : Type} (xs : List α) (k : Nat) : cutD xs none (some (k : Int)) = xs.take k := by
  unfold cutD
  rw [HT.sIx_none, HT.sIx_nat, List.drop_zero, Nat.sub_zero]
  by_cases h : k ≤ xs.length
  · rw [Nat.min_eq_left h]
  · rw [Nat.min_eq_right (by omega), List.take_length, List.take_of_length_le (by omega)]
theorem cut_drop {α : Type} (xs : List α) (k : Nat) : cutD xs (some (k : Int)) none = xs.drop k := by
  unfold cutD
  rw [HT.sIx_none, HT.sIx_nat]
  by_cases h : k ≤ xs.length
  · rw [Nat.min_eq_left h, List.take_of_length_le (by rw [List.length_drop]; exact Nat.le_refl _)]
  · rw [Nat.min_eq_right (by omega), List.drop_eq_nil_of_le (Nat.le_refl _), List.drop_eq_nil_of_le (by omega), List.take_nil]
theorem atI_nat' {xs : List D} {j : Nat} : atI xs (j : Int) = xs[j]? := by
  unfold atI ixN
  rw [if_pos (by omega)]
  by_cases h : j < xs.length
  · rw [if_pos (by omega), Int.toNat_natCast]
    rfl
  · rw [if_neg (by omega), List.getElem?_eq_none (by omega)]
    rfl
theorem asInts_int : ∀ xs : List Int, asInts (dI xs) = some xs
  | [] => rfl
  | x :: xs => by
    show (asInts (dI xs)).map _ = _
    rw [asInts_int xs]
    rfl

/-! step by step -/
theorem run_fn {N : Nat} {body : ES} {ds : List D} {M M' : List MO} {r : D × Bool} {e : Env} (h : body (ds.map .fz ++ List.replicate (N - ds.length) .no) M = some (.rt r, e, M')) : mkFn N body ds M = some (r, M') := by
  unfold mkFn
  rw [h]
theorem run_fn0 {N : Nat} {body : ES} {ds : List D} {M M' : List MO} {e : Env} (h : body (ds.map .fz ++ List.replicate (N - ds.length) .no) M = some (.nx, e, M')) : mkFn N body ds M = some ((.non, false), M') := by
  unfold mkFn
  rw [h]
theorem run_seq {f g : ES} {env e1 : Env} {M M1 : List MO} {r : Fl × Env × List MO} (h1 : f env M = some (.nx, e1, M1)) (h2 : g e1 M1 = some r) : sSeq f g env M = some r := by
  unfold sSeq
  rw [h1]
  exact h2
theorem run_set {i : Nat} {f : EE} {env : Env} {M M1 : List MO} {r : D × Bool} (h : f env M = some (r, M1)) (hi : i < env.length) : sSet i f env M = some (.nx, putSl env i r, M1) := by
  unfold sSet
  rw [h]
  exact if_pos hi
theorem run_comp {vs : List Nat} {it : EI} {tg : Tg} {cond : EB} {elt : EP} {env : Env} {M M1 M2 : List MO} {ds ys : List D} (h1 : it env M = some (ds, M1)) (h2 : compL (wipeE env vs) tg cond elt ds M1 = some (ys, M2)) (hl : ys.length ≤ LIM) : eComp vs it tg cond elt env M = some ((.lst ys, true), M2) := by
  unfold eComp
  rw [h1]
  dsimp only
  rw [h2]
  exact if_pos hl
theorem run_for {it : EI} {t : Tg} {body : ES} {env : Env} {M M1 : List MO} {ds : List D} {r : Fl × Env × List MO} (h1 : it env M = some (ds, M1)) (h2 : forL t body ds env M1 = some r) : sFor it t body env M = some r := by
  unfold sFor
  rw [h1]
  exact h2
theorem v_sApp' {env : Env} {M : List MO} {i : Nat} {f : EP} : sApp i f env M = match env[i]? with
  | some (.own (.lst ds)) => match f env M with
    | some (d, M1) => if ds.length < LIM then some (.nx, env.set i (.own (.lst (ds ++ [d]))), M1) else none
    | none => none
  | _ => none := rfl

/-! what holds behind a statement -/
def Post (f : ES) (env : Env) (M : List MO) (Q : Fl → Env → List MO → Prop) : Prop := ∃ fl e M', f env M = some (fl, e, M') ∧ Q fl e M'
theorem Post.of {f : ES} {env e : Env} {M M' : List MO} {fl : Fl} {Q : Fl → Env → List MO → Prop} (h : f env M = some (fl, e, M')) (q : Q fl e M') : Post f env M Q := ⟨fl, e, M', h, q⟩
theorem Post.imp {f : ES} {env : Env} {M : List MO} {Q Q' : Fl → Env → List MO → Prop} (h : Post f env M Q) (i : ∀ fl e M', Q fl e M' → Q' fl e M') : Post f env M Q' := by
  obtain ⟨fl, e, M', a, b⟩ := h
  exact ⟨fl, e, M', a, i _ _ _ b⟩
theorem Post.seq {f g : ES} {env : Env} {M : List MO} {Q : Fl → Env → List MO → Prop} (h : Post f env M fun fl e M' => match fl with
    | .nx => Post g e M' Q
    | fl => Q fl e M') : Post (sSeq f g) env M Q := by
  obtain ⟨fl, e, M', a, b⟩ := h
  cases fl with
  | nx =>
    obtain ⟨fl2, e2, M2, c, d⟩ := b
    refine ⟨fl2, e2, M2, ?_, d⟩
    unfold sSeq
    rw [a]
    exact c
  | _ =>
    refine ⟨_, e, M', ?_, b⟩
    unfold sSeq
    rw [a]
/-- a statement that goes on -/
theorem Post.then {f g : ES} {env e1 : Env} {M M1 : List MO} {Q : Fl → Env → List MO → Prop} (h1 : f env M = some (.nx, e1, M1)) (h2 : Post g e1 M1 Q) : Post (sSeq f g) env M Q := Post.seq (Post.of h1 h2)
theorem Post.ifT {c : EB} {f g : ES} {env : Env} {M M1 : List MO} {Q : Fl → Env → List MO → Prop} (h : c env M = some (true, M1)) (q : Post f env M1 Q) : Post (sIf c f g) env M Q := by
  obtain ⟨fl, e, M', a, b⟩ := q
  refine ⟨fl, e, M', ?_, b⟩
  unfold sIf
  rw [h]
  exact a
theorem Post.ifF {c : EB} {f g : ES} {env : Env} {M M1 : List MO} {Q : Fl → Env → List MO → Prop} (h : c env M = some (false, M1)) (q : Post g env M1 Q) : Post (sIf c f g) env M Q := by
  obtain ⟨fl, e, M', a, b⟩ := q
  refine ⟨fl, e, M', ?_, b⟩
  unfold sIf
  rw [h]
  exact a
theorem Post.loopL {t : Tg} {body : ES} {Q : Fl → Env → List MO → Prop} (I : List D → Env → List MO → Prop) (hs : ∀ d r env M, I (d :: r) env M → ∃ e1, t.bind d env = some e1 ∧ Post body e1 M fun fl e2 M2 => match fl with
    | .nx => I r e2 M2
    | .ct => I r e2 M2
    | .bk => Q .nx e2 M2
    | .rt v => Q (.rt v) e2 M2) (hq : ∀ env M, I [] env M → Q .nx env M) : ∀ {ds : List D} {env : Env} {M : List MO}, I ds env M → ∃ fl e M', forL t body ds env M = some (fl, e, M') ∧ Q fl e M'
  | [], env, M, h => ⟨.nx, env, M, rfl, hq _ _ h⟩
  | d :: ds, env, M, h => by
    obtain ⟨e1, h1, fl, e2, M2, h2, h3⟩ := hs d ds env M h
    cases fl with
    | nx =>
      obtain ⟨fl, e, M', a, b⟩ := Post.loopL I hs hq (ds := ds) h3
      refine ⟨fl, e, M', ?_, b⟩
      unfold forL
      rw [h1]
      dsimp only
      rw [h2]
      exact a
    | ct =>
      obtain ⟨fl, e, M', a, b⟩ := Post.loopL I hs hq (ds := ds) h3
      refine ⟨fl, e, M', ?_, b⟩
      unfold forL
      rw [h1]
      dsimp only
      rw [h2]
      exact a
    | bk =>
      refine ⟨.nx, e2, M2, ?_, h3⟩
      unfold forL
      rw [h1]
      dsimp only
      rw [h2]
    | rt v =>
      refine ⟨.rt v, e2, M2, ?_, h3⟩
      unfold forL
      rw [h1]
      dsimp only
      rw [h2]
/-- a loop by what stays true -/
theorem Post.loop {it : EI} {t : Tg} {body : ES} {env : Env} {M M1 : List MO} {ds : List D} {Q : Fl → Env → List MO → Prop} (I : List D → Env → List MO → Prop) (h1 : it env M = some (ds, M1)) (h0 : I ds env M1) (hs : ∀ d r env M, I (d :: r) env M → ∃ e1, t.bind d env = some e1 ∧ Post body e1 M fun fl e2 M2 => match fl with
    | .nx => I r e2 M2
    | .ct => I r e2 M2
    | .bk => Q .nx e2 M2
    | .rt v => Q (.rt v) e2 M2) (hq : ∀ env M, I [] env M → Q .nx env M) : Post (sFor it t body) env M Q := by
  obtain ⟨fl, e, M', a, b⟩ := Post.loopL I hs hq h0
  refine ⟨fl, e, M', ?_, b⟩
  unfold sFor
  rw [h1]
  exact a
theorem Post.fn {N : Nat} {body : ES} {ds : List D} {M : List MO} {T : D × Bool → List MO → Prop} (h : Post body (ds.map .fz ++ List.replicate (N - ds.length) .no) M fun fl _ M' => match fl with
    | .rt r => T r M'
    | .nx => T (.non, false) M'
    | _ => False) : ∃ r M', mkFn N body ds M = some (r, M') ∧ T r M' := by
  obtain ⟨fl, e, M', a, b⟩ := h
  cases fl with
  | nx => exact ⟨_, M', by unfold mkFn; rw [a], b⟩
  | rt r => exact ⟨r, M', by unfold mkFn; rw [a], b⟩
  | ct => exact b.elim
  | bk => exact b.elim

theorem comp_all {env : Env} {tg : Tg} {elt : EP} {M : List MO} (f : D → D) {ds : List D} (h : ∀ d ∈ ds, ∃ e1, tg.bind d env = some e1 ∧ elt e1 M = some (f d, M)) : compL env tg eYes elt ds M = some (ds.map f, M) := by
  have z := comp_map (cond := eYes) (M := M) (elt := elt) (tg := tg) (env := env) (fun _ => true) f (ds := ds) fun d hd => by
    obtain ⟨e1, h1, h2⟩ := h d hd
    exact ⟨e1, h1, rfl, fun _ => h2⟩
  rw [z, List.filter_eq_self.mpr fun _ _ => rfl]

theorem comp_on {α : Type} {env : Env} {tg : Tg} {cond : EB} {elt : EP} {M : List MO} (g : α → D) (p : α → Bool) (f : α → D) {xs : List α} (h : ∀ a ∈ xs, ∃ e1, tg.bind (g a) env = some e1 ∧ cond e1 M = some (p a, M) ∧ (p a = true → elt e1 M = some (f a, M))) :
    compL env tg cond elt (xs.map g) M = some ((xs.filter p).map f, M) := by
  induction xs with
  | nil => rfl
  | cons d ds ih =>
    obtain ⟨e1, h1, h2, h3⟩ := h d (List.mem_cons_self ..)
    have ih := ih fun x hx => h x (List.mem_cons_of_mem _ hx)
    rw [List.map_cons]
    unfold compL
    rw [h1]
    dsimp only
    rw [h2]
    cases hp : p d with
    | true =>
      dsimp only
      rw [h3 hp]
      dsimp only
      rw [ih, List.filter_cons_of_pos hp]
      rfl
    | false =>
      dsimp only
      rw [ih, List.filter_cons_of_neg (by rw [hp]; exact Bool.false_ne_true)]
theorem comp_to {α : Type} {env : Env} {tg : Tg} {elt : EP} {M : List MO} (g f : α → D) {xs : List α} (h : ∀ a ∈ xs, ∃ e1, tg.bind (g a) env = some e1 ∧ elt e1 M = some (f a, M)) : compL env tg eYes elt (xs.map g) M = some (xs.map f, M) := by
  have z := comp_on (cond := eYes) (elt := elt) (tg := tg) (env := env) (M := M) g (fun _ => true) f (xs := xs) fun a ha => by
    obtain ⟨e1, h1, h2⟩ := h a ha
    exact ⟨e1, h1, rfl, fun _ => h2⟩
  rw [z, List.filter_eq_self.mpr fun _ _ => rfl]
theorem enumD_map {α : Type} (g : α → D) (xs : List α) : enumD (xs.map g) = (xs.mapIdx fun i x => (i, x)).map fun p => .tup [.int (p.1 : Nat), g p.2] := by
  unfold enumD
  apply List.ext_getElem?
  intro i
  rw [List.getElem?_mapIdx, List.getElem?_map, List.getElem?_map, List.getElem?_mapIdx]
  cases xs[i]? <;> rfl
theorem mem_mapIdx_pair {α : Type} {xs : List α} {p : Nat × α} (h : p ∈ xs.mapIdx fun i x => (i, x)) : xs[p.1]? = some p.2 := by
  obtain ⟨i, hi, e⟩ := List.mem_mapIdx.mp h
  subst e
  exact List.getElem?_eq_getElem hi
theorem pl_rows (xs : List (List Int)) : (D.lst (xs.map iT)).pl = true := pls_all fun d hd => by
  obtain ⟨x, _, rfl⟩ := List.mem_map.mp hd
  exact pl_tI x
theorem depth_rows (xs : List (List Int)) : (D.lst (xs.map iT)).depth ≤ 64 := by
  show D.depths (xs.map iT) + 1 ≤ 64
  have := depths_le (ds := xs.map iT) (n := 1) fun d hd => by
    obtain ⟨x, _, rfl⟩ := List.mem_map.mp hd
    rw [depth_tI]
    exact Nat.le_refl _
  omega
theorem pl_rowsT (xs : List (List Int)) : (D.tup (xs.map iT)).pl = true := pl_rows xs
theorem depth_rowsT (xs : List (List Int)) : (D.tup (xs.map iT)).depth ≤ 64 := depth_rows xs
theorem iT_inj {a b : List Int} : iT a = iT b ↔ a = b := ⟨fun h => dI_inj.mp (D.tup.inj h), fun h => by rw [h]⟩
end R

set_option Elab.async false
set_option linter.all false
set_option maxRecDepth 100000
set_option maxHeartbeats 2000000
/-! R23: how a law ends -/
namespace R
open PySem PySem.Spec PyProof.Rows L2
def HasF (P : Program) (w : World) (K : PySem.W.Frag) (mg : Str → Option Value) (base : Heap) (k : Nat) (x : Str) (e : R.Entry) : Prop :=
  ∃ (f : Addr) (fd : FuncData) (ps : List Str), FnOk P w K mg base CX0 k f fd ps (spF K ps.length e.F) ∧ mg x = some (.ref f) ∧ PySem.W.keepIn K (.ref f) = true ∧ Binds K fd ps [] ∧ ps.length = e.ar
def HasC (K : PySem.W.Frag) (mg : Str → Option Value) (x : Str) (d : D) : Prop := ∃ v u, mg x = some u ∧ RelV v u ∧ ∀ W : Wd, RepW K W v d
section
variable {P : Program} {w : World} {K : PySem.W.Frag} {mg : Str → Option Value} {base : Heap} {k j : Nat} {x : Str}
theorem HasF.mono {e : R.Entry} (h : HasF P w K mg base k x e) (hk : k ≤ j) : HasF P w K mg base j x e := by
  obtain ⟨f, fd, ps, a, b⟩ := h
  exact ⟨f, fd, ps, a.mono hk, b⟩
/-- the same def, its value taken as a living thing or not -/
theorem HasF.lv {F : Fn} {n : Nat} {a b : Bool} (h : HasF P w K mg base k x ⟨F, n, a⟩) : HasF P w K mg base k x ⟨F, n, b⟩ := h
theorem all_nil {α : Type} {T : Str → α → Prop} : ∀ y e, ([] : List (Str × α)).lookup y = some e → T y e := fun y e h => (by cases h)
theorem all_cons {α : Type} {T : Str → α → Prop} {x : Str} {a : α} {l : List (Str × α)} (h : T x a) (r : ∀ y e, l.lookup y = some e → T y e) : ∀ y e, ((x, a) :: l).lookup y = some e → T y e := fun y e q => by
  rw [List.lookup_cons] at q
  split at q
  · rename_i z
    cases q
    rw [eq_of_beq z]
    exact h
  · exact r y e q
theorem hasC_int {i : Int} {t : Tok} (h : mg x = some (.int i t)) : HasC K mg x (.int i) := ⟨.int i, _, h, ⟨t, rfl⟩, fun _ => .int i⟩
theorem hasC_str {s : Str} {t : Tok} (h : mg x = some (.str s t)) (ok : PyData.strOk s = true) : HasC K mg x (.str s) := ⟨.str s, _, h, ⟨t, rfl⟩, fun _ => .str s ok⟩
theorem mods {cst : List (Str × D)} {fns : List (Str × R.Entry)} (b : ∀ x ∈ bNames, mg x = none) (c : ∀ x d, cst.lookup x = some d → HasC K mg x d) (f : ∀ x e, fns.lookup x = some e → HasF P w K mg base k x e) : Mods P w K mg base cst fns k := ⟨b, c, f⟩
/-- a def that the text has, by its compiled body -/
theorem has_def {st : Stmt} {f : Addr} {fd : FuncData} {N ps : List Str} {cst : List (Str × D)} {fns : List (Str × R.Entry)} {mu : List Nat} {body : ES} (F : L2.Fun K x x st f fd) (S : FnScope N ps (defScope st)) (b : Binds K fd ps []) (g : mg x = some (.ref f)) (T : Mods P w K mg base cst fns k) (hb : cDef N fns cst mu st = some body) :
    HasF P w K mg base (k + 1) x ⟨mkFn N.length body, ps.length, false⟩ := ⟨f, fd, ps, def_ok F S T hb, g, F.kp, b, rfl⟩
/-- nothing is promised -/
theorem has_none {st : Stmt} {f : Addr} {fd : FuncData} {N ps : List Str} (F : L2.Fun K x x st f fd) (S : FnScope N ps (defScope st)) (b : Binds K fd ps []) (g : mg x = some (.ref f)) : HasF P w K mg base (k + 1) x ⟨fun _ _ => none, ps.length, false⟩ := by
  refine ⟨f, fd, ps, F.ok S (fun vs H Q E h => h.1) (fun cdv A outer s H vs Q E hr h => ?_), g, F.kp, b, rfl⟩
  obtain ⟨_, W, M, ds, r, M', _, _, e, _⟩ := h
  cases e
/-- what the law's own def is asked for -/
def spTop (K : PySem.W.Frag) : Sp := fun vs H Q _ => ∃ (a : Addr) (ns : List Int), vs = [.ref a] ∧ SqL K H a (ns.map V.int) ∧ ns.length ≤ 63 ∧ ∀ H', Q (.bl true) H'
theorem reps_dI {G : Hp} {al : List Addr} (ns : List Int) : Reps K G al (ns.map V.int) (dI ns) := Reps.ofInts ns
theorem top_ok {F : Fn} {f : Addr} {fd : FuncData} (h : FnOk P w K mg base CX0 k f fd ["script"] (spF K 1 F)) (run : ∀ ns : List Int, ns.length ≤ 63 → ∃ M', F [.scr (dI ns)] [] = some ((.bl true, false), M')) : FnOk P w K mg base CX0 k f fd ["script"] (spTop K) :=
  h.imp fun vs H Q E ⟨a, ns, e, hs, hl, q⟩ => by
    subst e
    obtain ⟨M', hr⟩ := run ns hl
    refine ⟨rfl, ⟨H, fun _ => none, fun _ => none, []⟩, [], [.scr (dI ns)], _, M', ⟨Le.refl _, fun a o h => (by cases h), fun a o h => (by cases h), fun _ _ => ⟨rfl, rfl⟩, fun _ _ => rfl, fun a h => (by cases h), List.nodup_nil, rfl, fun n a m h => (by simp at h)⟩, .cons (.scr hs (reps_dI ns)) .nil, hr, fun v H' W' _ _ rr => ?_⟩
    cases rr with
    | old r =>
      cases r
      exact q H'
end
end R

set_option Elab.async false
set_option linter.all false
set_option maxRecDepth 100000
set_option maxHeartbeats 4000000
/-! the text of the law, compiled -/
namespace LW
open PySem PySem.Spec PyProof.Rows L2 R
def topS (i : Nat) : Stmt := PySem.Challenge.pw_checksenough_k43_whole_numbers_of_cases.main.body.getD i (.Pass ⟨0, 0, 0, 0⟩)
def cst : List (Str × D) := [("LETTERS", .str "abcdefghijklmnopqrstuvwxyz"), ("MOST_LETTERS", .int 6)]
def N_demand : List Str := ["good", "name"]
def B_demand : ES := sPre [] (sIf (eNot (tbV (eVar 0))) (sNone) (sNx))
def F_demand : Fn := mkFn 2 B_demand
def T_demand : List (Str × R.Entry) := []
theorem C_demand : cDef N_demand (T_demand) cst [] (topS 6) = some (B_demand) := by kernel_rfl
theorem S_demand : FnScope N_demand ["good", "name"] (defScope (topS 6)) := ⟨rfl, rfl, rfl, by decide +kernel, rfl, by decide +kernel, by decide +kernel⟩
def N_is_in : List Str := ["value", "low", "high"]
def B_is_in : ES := sPre [] (sRet (vAnd (tbB (eFz (eUn (dIsi "int") (eVar 0)))) (vAnd (tbB (eFz (eOld (bVal (eNot (tbV (eFz (eUn (dIsi "bool") (eVar 0))))))))) (eChain dLe dLe (eVar 1) (eVar 0) (eVar 2)))))
def F_is_in : Fn := mkFn 3 B_is_in
def T_is_in : List (Str × R.Entry) := []
theorem C_is_in : cDef N_is_in (T_is_in) cst [] (topS 7) = some (B_is_in) := by kernel_rfl
theorem S_is_in : FnScope N_is_in ["value", "low", "high"] (defScope (topS 7)) := ⟨rfl, rfl, rfl, by decide +kernel, rfl, by decide +kernel, by decide +kernel⟩
def N_is_tuple : List Str := ["value", "low", "high"]
def B_is_tuple : ES := sPre [] (sRet (vAnd (tbB (eFz (eUn (dIsi "tuple") (eVar 0)))) (eChain dLe dLe (eVar 1) (eFz (eCall dLen (eCons (eVar 0) (eNil)))) (eVar 2))))
def F_is_tuple : Fn := mkFn 3 B_is_tuple
def T_is_tuple : List (Str × R.Entry) := []
theorem C_is_tuple : cDef N_is_tuple (T_is_tuple) cst [] (topS 8) = some (B_is_tuple) := by kernel_rfl
theorem S_is_tuple : FnScope N_is_tuple ["value", "low", "high"] (defScope (topS 8)) := ⟨rfl, rfl, rfl, by decide +kernel, rfl, by decide +kernel, by decide +kernel⟩
def N_is_word : List Str := ["value", "sign"]
def B_is_word : ES := sPre [] (sRet (vAnd (tbB (eFz (eUn (dIsi "str") (eVar 0)))) (vAnd (tbB (eFz (eChain dLe dLe (eFz (eOld (eCst (.int 1)))) (eFz (eCall dLen (eCons (eVar 0) (eNil)))) (eFz (eOld (eCst (.int 8))))))) (eCall dAll (eCons (eFz (eComp [1] (iSeq (eVar 0)) (.nm 1) eYes (eFz (eOp (dIn false) (eVar 1) (eCst (.str "abcdefghijklmnopqrstuvwxyz")))))) (eNil))))))
def F_is_word : Fn := mkFn 2 B_is_word
def T_is_word : List (Str × R.Entry) := []
theorem C_is_word : cDef N_is_word (T_is_word) cst [] (topS 9) = some (B_is_word) := by kernel_rfl
theorem S_is_word : FnScope N_is_word ["value"] (defScope (topS 9)) := ⟨rfl, rfl, rfl, by decide +kernel, rfl, by decide +kernel, by decide +kernel⟩
def N_is_letter : List Str := ["value"]
def B_is_letter : ES := sPre [] (sRet (vAnd (tbB (eFz (eFn F_is_word (eCons (eVar 0) (eNil))))) (eOp dEq (eFz (eCall dLen (eCons (eVar 0) (eNil)))) (eFz (eOld (eCst (.int 1)))))))
def F_is_letter : Fn := mkFn 1 B_is_letter
def T_is_letter : List (Str × R.Entry) := [("is_word", { F := F_is_word, ar := 1 })]
theorem C_is_letter : cDef N_is_letter (T_is_letter) cst [] (topS 10) = some (B_is_letter) := by kernel_rfl
theorem S_is_letter : FnScope N_is_letter ["value"] (defScope (topS 10)) := ⟨rfl, rfl, rfl, by decide +kernel, rfl, by decide +kernel, by decide +kernel⟩
def N_is_cell : List Str := ["value"]
def B_is_cell : ES := sPre [] (sRet (eFn F_is_in (eCons (eVar 0) (eCons (eFz (eOld (eCst (.int 0)))) (eCons (eFz (eOld (eCst (.int 9)))) (eNil))))))
def F_is_cell : Fn := mkFn 1 B_is_cell
def T_is_cell : List (Str × R.Entry) := [("is_in", { F := F_is_in, ar := 3 })]
theorem C_is_cell : cDef N_is_cell (T_is_cell) cst [] (topS 11) = some (B_is_cell) := by kernel_rfl
theorem S_is_cell : FnScope N_is_cell ["value"] (defScope (topS 11)) := ⟨rfl, rfl, rfl, by decide +kernel, rfl, by decide +kernel, by decide +kernel⟩
def N_all_cases : List Str := ["letters", "told", "fresh", "cell", "found", "letter", "later", "own", "used"]
def B_all_cases : ES := sSeq (sPre [] (sSet 2 (eOld (eFz (eComp [3] (iRng (eCons (eFz (eOld (eCst (.int 10)))) (eNil))) (.nm 3) (tbB (eFz (eOp (dIn true) (eVar 3) (eVar 1)))) (eVar 3)))))) (sSeq (sPre [] (sSet 4 (eOld (eFz (eLst (eCons (eFz (eTup (eCons (eFz (eTup (eNil))) (eCons (eFz (eOld (eCst (.int 0)))) (eNil))))) (eNil))))))) (sSeq (sPre [] (sFor (iSeq (eVar 0)) (.nm 5) (sSeq (sPre [] (sSet 6 (eLst (eNil)))) (sSeq (sPre [] (sFor (iSeq (eVar 4)) (.tp [.nm 7, .nm 8]) (sPre [] (sFor (iSeq (eFz (eCall dSorted (eCons (eFz (eOp dAdd (eVar 1) (eFz (eSl (eVar 2) (eNoP) (eSomeP (eFz (eOp dAdd (eVar 8) (eFz (eOld (eCst (.int 1))))))))))) (eNil))))) (.nm 3) (sPre [] (sApp 6 (eFz (eTup (eCons (eFz (eOp dAdd (eVar 7) (eFz (eTup (eCons (eVar 3) (eNil)))))) (eCons (eFz (eCall dMax2 (eCons (eVar 8) (eCons (eFz (eIf (tbB (eFz (eOp (dIn false) (eVar 3) (eVar 2)))) (eOp dAdd (eFz (eOp dIndex (eVar 2) (eVar 3))) (eFz (eOld (eCst (.int 1))))) (eOld (eCst (.int 0))))) (eNil))))) (eNil))))))))))) (sPre [6] (sSet 4 (eOld (eFz (eOld (eVar 6)))))))))) (sPre [] (sRet (eComp [7, 8] (iSeq (eVar 4)) (.tp [.nm 7, .nm 8]) eYes (eVar 7))))))
def F_all_cases : Fn := mkFn 9 B_all_cases
def T_all_cases : List (Str × R.Entry) := []
theorem C_all_cases : cDef N_all_cases (T_all_cases) cst [6] (topS 14) = some (B_all_cases) := by kernel_rfl
theorem S_all_cases : FnScope N_all_cases ["letters", "told"] (defScope (topS 14)) := ⟨rfl, rfl, rfl, by decide +kernel, rfl, by decide +kernel, by decide +kernel⟩
def N_cases : List Str := ["letters", "told", "own"]
def B_cases : ES := sSeq (sPre [] (sEx (eFn F_demand (eCons (eFz (vAnd (tbB (eFz (eFn F_is_tuple (eCons (eVar 0) (eCons (eFz (eOld (eCst (.int 0)))) (eCons (eFz (eOld (eCst (.int 8)))) (eNil))))))) (eCall dAll (eCons (eFz (eComp [2] (iSeq (eVar 0)) (.nm 2) eYes (eFz (eFn F_is_letter (eCons (eVar 2) (eNil)))))) (eNil))))) (eCons (eFz (eOld (eCst (.str "letters")))) (eNil)))))) (sSeq (sPre [] (sEx (eFn F_demand (eCons (eFz (eOp dEq (eFz (eUn dLenSet (eVar 0))) (eFz (eCall dLen (eCons (eVar 0) (eNil)))))) (eCons (eFz (eOld (eCst (.str "letters")))) (eNil)))))) (sSeq (sPre [] (sEx (eFn F_demand (eCons (eFz (vAnd (tbB (eFz (eFn F_is_tuple (eCons (eVar 1) (eCons (eFz (eOld (eCst (.int 0)))) (eCons (eFz (eOld (eCst (.int 10)))) (eNil))))))) (eCall dAll (eCons (eFz (eComp [2] (iSeq (eVar 1)) (.nm 2) eYes (eFz (eFn F_is_cell (eCons (eVar 2) (eNil)))))) (eNil))))) (eCons (eFz (eOld (eCst (.str "told")))) (eNil)))))) (sSeq (sPre [] (sIf (tbB (eFz (eOp dGt (eFz (eCall dLen (eCons (eVar 0) (eNil)))) (eCst (.int 6))))) (sNone) (sNx))) (sPre [] (sRet (eCall dTuple (eCons (eFz (eFn F_all_cases (eCons (eVar 0) (eCons (eFz (eUn dSortSet (eVar 1))) (eNil))))) (eNil))))))))
def F_cases : Fn := mkFn 3 B_cases
def T_cases : List (Str × R.Entry) := [("demand", { F := F_demand, ar := 2 }), ("all_cases", { F := F_all_cases, ar := 2 }), ("is_tuple", { F := F_is_tuple, ar := 3 }), ("is_letter", { F := F_is_letter, ar := 1 }), ("is_cell", { F := F_is_cell, ar := 1 })]
theorem C_cases : cDef N_cases (T_cases) cst [] (topS 15) = some (B_cases) := by kernel_rfl
theorem S_cases : FnScope N_cases ["letters", "told"] (defScope (topS 15)) := ⟨rfl, rfl, rfl, by decide +kernel, rfl, by decide +kernel, by decide +kernel⟩
def N__law_dice : List Str := ["script", "spot", "own", "mixed", "cell"]
def B__law_dice : ES := sSeq (sPre [] (sSet 2 (eOld (eFz (eIf (tbB (eFz (eOp dLt (eVar 1) (eFz (eCall dLen (eCons (eVar 0) (eNil))))))) (eIxM (eVar 0) (eVar 1)) (eOp dAdd (eFz (eOp dMul (eFz (eOld (eCst (.int 907)))) (eVar 1))) (eFz (eOld (eCst (.int 41)))))))))) (sSeq (sPre [] (sSet 3 (eOld (eFz (eOp dAdd (eFz (eOld (eCst (.int 700067)))) (eFz (eOp dMul (eFz (eOld (eCst (.int 6997)))) (eVar 1)))))))) (sSeq (sPre [] (sFor (iSeq (eFz (eOp dAdd (eFz (eSl (eVar 0) (eNoP) (eSomeP (eFz (eOld (eCst (.int 6))))))) (eFz (eLst (eCons (eVar 2) (eNil))))))) (.nm 4) (sPre [] (sSet 3 (eOld (eFz (eOp dMod (eFz (eCall dInt (eCons (eFz (eOp dAdd (eFz (eOp dMul (eVar 3) (eFz (eOld (eCst (.int 69621)))))) (eFz (eOp dMod (eFz (eCall dInt (eCons (eVar 4) (eNil)))) (eFz (eOld (eCst (.int 2147480009)))))))) (eNil)))) (eFz (eOld (eCst (.int 2147480009))))))))))) (sPre [] (sRet (eLst (eCons (eFz (eIf (eOr (tbB (eFz (eOp dLt (eVar 2) (eFz (eOld (eCst (.int 0))))))) (tbB (eFz (eOp dGe (eVar 2) (eFz (eOp dPow (eFz (eOld (eCst (.int 10)))) (eFz (eOld (eCst (.int 16)))))))))) (eCall dAbs (eCons (eVar 2) (eNil))) (eOld (eCst (.int 0))))) (eCons (eVar 3) (eCons (eFz (eOld (eCst (.int 0)))) (eNil)))))))))
def F__law_dice : Fn := mkFn 5 B__law_dice
def T__law_dice : List (Str × R.Entry) := []
theorem C__law_dice : cDef N__law_dice (T__law_dice) cst [] (topS 17) = some (B__law_dice) := by kernel_rfl
theorem S__law_dice : FnScope N__law_dice ["script", "spot"] (defScope (topS 17)) := ⟨rfl, rfl, rfl, by decide +kernel, rfl, by decide +kernel, by decide +kernel⟩
def N__law_roll : List Str := ["dice", "total", "found"]
def B__law_roll : ES := sSeq (sPre [] (sIf (tbB (eFz (eOp dGt (eFz (eIxM (eVar 0) (eFz (eOld (eCst (.int 0)))))) (eFz (eOld (eCst (.int 0))))))) (sSeq (sPre [] (sSet 2 (eOld (eFz (eOp dMod (eFz (eCall dInt (eCons (eFz (eIxM (eVar 0) (eFz (eOld (eCst (.int 0)))))) (eNil)))) (eVar 1)))))) (sSeq (sPre [] (sSub 0 (eFz (eOld (eCst (.int 0)))) (eFz (eOp dDiv (eFz (eIxM (eVar 0) (eFz (eOld (eCst (.int 0)))))) (eVar 1))))) (sRetV 2))) (sNx))) (sSeq (sPre [] (sSub 0 (eFz (eOld (eCst (.int 2)))) (eFz (eOp dAdd (eFz (eIxM (eVar 0) (eFz (eOld (eCst (.int 2)))))) (eFz (eOld (eCst (.int 1)))))))) (sSeq (sPre [] (sSub 0 (eFz (eOld (eCst (.int 1)))) (eFz (eOp dMod (eFz (eCall dInt (eCons (eFz (eOp dAdd (eFz (eOp dAdd (eFz (eOp dMul (eFz (eIxM (eVar 0) (eFz (eOld (eCst (.int 1)))))) (eFz (eOld (eCst (.int 48271)))))) (eFz (eOp dMul (eFz (eOp dMul (eFz (eIxM (eVar 0) (eFz (eOld (eCst (.int 2)))))) (eFz (eIxM (eVar 0) (eFz (eOld (eCst (.int 2)))))))) (eFz (eOld (eCst (.int 2003)))))))) (eFz (eOld (eCst (.int 91)))))) (eNil)))) (eFz (eOld (eCst (.int 2147480009)))))))) (sPre [] (sRet (eOp dMod (eFz (eCall dInt (eCons (eFz (eOp dDiv (eFz (eIxM (eVar 0) (eFz (eOld (eCst (.int 1)))))) (eFz (eOld (eCst (.int 197)))))) (eNil)))) (eVar 1))))))
def F__law_roll : Fn := mkFn 3 B__law_roll
def T__law_roll : List (Str × R.Entry) := []
theorem C__law_roll : cDef N__law_roll (T__law_roll) cst [] (topS 18) = some (B__law_roll) := by kernel_rfl
theorem S__law_roll : FnScope N__law_roll ["dice", "total"] (defScope (topS 18)) := ⟨rfl, rfl, rfl, by decide +kernel, rfl, by decide +kernel, by decide +kernel⟩
def N__law_pick : List Str := ["dice", "things"]
def B__law_pick : ES := sPre [] (sRet (eIxM (eVar 1) (eFz (eFn F__law_roll (eCons (eVar 0) (eCons (eFz (eCall dLen (eCons (eVar 1) (eNil)))) (eNil)))))))
def F__law_pick : Fn := mkFn 2 B__law_pick
def T__law_pick : List (Str × R.Entry) := [("_law_roll", { F := F__law_roll, ar := 2 })]
theorem C__law_pick : cDef N__law_pick (T__law_pick) cst [] (topS 19) = some (B__law_pick) := by kernel_rfl
theorem S__law_pick : FnScope N__law_pick ["dice", "things"] (defScope (topS 19)) := ⟨rfl, rfl, rfl, by decide +kernel, rfl, by decide +kernel, by decide +kernel⟩
def N__law_number : List Str := ["letters", "told", "used", "found"]
def B__law_number (self : Fn) : ES := sSeq (sPre [] (sIf (tbB (eFz (eOp dEq (eVar 0) (eFz (eOld (eCst (.int 0))))))) (sPre [] (sRet (eOld (eCst (.int 1))))) (sNx))) (sSeq (sPre [] (sSet 3 (eOld (eFz (eOp dMul (eFz (eOp dAdd (eVar 1) (eVar 2))) (eFz (eFn self (eCons (eFz (eOp dSub (eVar 0) (eFz (eOld (eCst (.int 1)))))) (eCons (eVar 1) (eCons (eVar 2) (eNil))))))))))) (sPre [] (sRet (eOp dAdd (eVar 3) (eFz (eIf (tbB (eFz (eOp dLt (eFz (eOp dAdd (eVar 1) (eVar 2))) (eFz (eOld (eCst (.int 10))))))) (eFn self (eCons (eFz (eOp dSub (eVar 0) (eFz (eOld (eCst (.int 1)))))) (eCons (eVar 1) (eCons (eFz (eOp dAdd (eVar 2) (eFz (eOld (eCst (.int 1)))))) (eNil))))) (eOld (eCst (.int 0)))))))))
def F__law_number : Nat → Fn
  | 0 => fun _ _ => none
  | k + 1 => mkFn 4 (B__law_number (F__law_number k))
def T__law_number (self : Fn) : List (Str × R.Entry) := [("_law_number", { F := self, ar := 3 })]
theorem C__law_number (self : Fn) : cDef N__law_number (T__law_number self) cst [] (topS 20) = some (B__law_number self) := by kernel_rfl
theorem S__law_number : FnScope N__law_number ["letters", "told", "used"] (defScope (topS 20)) := ⟨rfl, rfl, rfl, by decide +kernel, rfl, by decide +kernel, by decide +kernel⟩
def N__law_case : List Str := ["dice", "many", "told", "turn", "cell", "letters", "found", "less", "parts", "own", "place", "least", "fresh", "every"]
def B__law_case : ES := sSeq (sPre [] (sTup (.tp [.nm 1, .nm 2]) (eFz (eTup (eCons (eFz (eFn F__law_roll (eCons (eVar 0) (eCons (eFz (eOld (eCst (.int 6)))) (eNil))))) (eCons (eFz (eTup (eNil))) (eNil))))))) (sSeq (sPre [] (sFor (iRng (eCons (eFz (eFn F__law_roll (eCons (eVar 0) (eCons (eFz (eOld (eCst (.int 5)))) (eNil))))) (eNil))) (.nm 3) (sSeq (sPre [] (sSet 4 (eOld (eFz (eFn F__law_roll (eCons (eVar 0) (eCons (eFz (eOld (eCst (.int 10)))) (eNil)))))))) (sPre [] (sSet 2 (eOld (eFz (eOp dAdd (eVar 2) (eFz (eIf (tbB (eFz (eOp (dIn true) (eVar 4) (eVar 2)))) (eTup (eCons (eVar 4) (eNil))) (eTup (eNil)))))))))))) (sSeq (sPre [] (sSet 5 (eOld (eFz (eSl (eFz (eTup (eCons (eFz (eOld (eCst (.str "v")))) (eCons (eFz (eOld (eCst (.str "a")))) (eCons (eFz (eOld (eCst (.str "k")))) (eCons (eFz (eOld (eCst (.str "z")))) (eCons (eFz (eOld (eCst (.str "m")))) (eNil)))))))) (eNoP) (eSomeP (eVar 1))))))) (sSeq (sPre [] (sSet 6 (eOld (eFz (eFn F_cases (eCons (eVar 5) (eCons (eVar 2) (eNil)))))))) (sSeq (sPre [] (sIf (eOr (tbB (eFz (eOp dNe (eFz (eCall dLen (eCons (eVar 6) (eNil)))) (eFz (eFn (F__law_number 20) (eCons (eVar 1) (eCons (eFz (eCall dLen (eCons (eVar 2) (eNil)))) (eCons (eFz (eOld (eCst (.int 0)))) (eNil))))))))) (tbB (eFz (eOp dNe (eFz (eCall dList (eCons (eVar 6) (eNil)))) (eFz (eCall dSorted (eCons (eVar 6) (eNil)))))))) (sPre [] (sRet (eOld (eCst (.bl false))))) (sNx))) (sSeq (sPre [] (sIf (tbB (eFz (eOp dGt (eVar 1) (eFz (eOld (eCst (.int 0))))))) (sSeq (sPre [] (sSet 7 (eOld (eFz (eFn F_cases (eCons (eFz (eSl (eVar 5) (eNoP) (eSomeP (eFz (eOp dSub (eVar 1) (eFz (eOld (eCst (.int 1))))))))) (eCons (eVar 2) (eNil)))))))) (sSeq (sPre [] (sSet 8 (eOld (eFz (eComp [9] (iSeq (eVar 6)) (.nm 9) eYes (eFz (eSl (eVar 9) (eNoP) (eSomeP (eFz (eOp dSub (eVar 1) (eFz (eOld (eCst (.int 1)))))))))))))) (sPre [] (sIf (tbB (eFz (eOp dNe (eFz (eCall dSorted (eCons (eVar 7) (eNil)))) (eFz (eCall dSorted (eCons (eFz (eComp [10, 9] (iEnumD (eVar 8)) (.tp [.nm 10, .nm 9]) (eOr (tbB (eFz (eOp dEq (eVar 10) (eFz (eOld (eCst (.int 0))))))) (tbB (eFz (eOp dNe (eFz (eIxM (eVar 8) (eFz (eOp dSub (eVar 10) (eFz (eOld (eCst (.int 1)))))))) (eVar 9))))) (eVar 9))) (eNil))))))) (sPre [] (sRet (eOld (eCst (.bl false))))) (sNx))))) (sNx))) (sSeq (sPre [] (sSet 11 (eOld (eFz (eComp [4] (iRng (eCons (eFz (eOld (eCst (.int 10)))) (eNil))) (.nm 4) (tbB (eFz (eOp (dIn true) (eVar 4) (eVar 2)))) (eVar 4)))))) (sSeq (sPre [] (sFor (iSeq (eVar 6)) (.nm 9) (sSeq (sPre [] (sSet 12 (eOld (eFz (eComp [10, 4] (iEnumD (eVar 9)) (.tp [.nm 10, .nm 4]) (eAnd (tbB (eFz (eOp (dIn true) (eVar 4) (eVar 2)))) (tbB (eFz (eOp (dIn true) (eVar 4) (eFz (eSl (eVar 9) (eNoP) (eSomeP (eVar 10)))))))) (eVar 4)))))) (sPre [] (sIf (tbB (eFz (eOp dNe (eVar 12) (eFz (eSl (eVar 11) (eNoP) (eSomeP (eFz (eCall dLen (eCons (eVar 12) (eNil)))))))))) (sPre [] (sRet (eOld (eCst (.bl false))))) (sNx)))))) (sSeq (sPre [] (sIf (eOr (tbB (eFz (eOp dNe (eFz (eFn F_cases (eCons (eVar 5) (eCons (eFz (eUn dRev (eVar 2))) (eNil))))) (eVar 6)))) (tbB (eFz (eOp dNe (eFz (eFn F_cases (eCons (eVar 5) (eCons (eFz (eOp dAdd (eVar 2) (eVar 2))) (eNil))))) (eVar 6))))) (sPre [] (sRet (eOld (eCst (.bl false))))) (sNx))) (sSeq (sPre [] (sIf (eAnd (tbB (eFz (eOp dLt (eFz (eCall dLen (eCons (eVar 2) (eNil)))) (eFz (eOld (eCst (.int 4))))))) (tbB (eFz (eOp dLt (eFz (eCall dLen (eCons (eFz (eFn F_cases (eCons (eVar 5) (eCons (eFz (eCall dTuple (eCons (eFz (eCall dSorted (eCons (eFz (eOp dAdd (eVar 2) (eFz (eTup (eCons (eFz (eIxM (eVar 11) (eFz (eOld (eCst (.int 0)))))) (eNil)))))) (eNil)))) (eNil)))) (eNil))))) (eNil)))) (eFz (eCall dLen (eCons (eVar 6) (eNil)))))))) (sPre [] (sRet (eOld (eCst (.bl false))))) (sNx))) (sSeq (sPre [] (sSet 13 (eOld (eFz (eFn F_cases (eCons (eFz (eSl (eVar 5) (eNoP) (eSomeP (eFz (eOld (eCst (.int 2))))))) (eCons (eFz (eRngT (eCons (eFz (eOld (eCst (.int 10)))) (eNil)))) (eNil)))))))) (sPre [] (sRet (vAnd (tbB (eFz (eOp dEq (eFz (eCall dLen (eCons (eVar 13) (eNil)))) (eFz (eIxM (eFz (eLst (eCons (eFz (eOld (eCst (.int 1)))) (eCons (eFz (eOld (eCst (.int 10)))) (eCons (eFz (eOld (eCst (.int 100)))) (eNil)))))) (eFz (eCall dMin2 (eCons (eVar 1) (eCons (eFz (eOld (eCst (.int 2)))) (eNil)))))))))) (eOp dEq (eFz (eFn F_cases (eCons (eFz (eTup (eNil))) (eCons (eVar 2) (eNil))))) (eFz (eTup (eCons (eFz (eTup (eNil))) (eNil))))))))))))))))))
def F__law_case : Fn := mkFn 14 B__law_case
def T__law_case : List (Str × R.Entry) := [("cases", { F := F_cases, ar := 2 }), ("_law_roll", { F := F__law_roll, ar := 2 }), ("_law_number", { F := (F__law_number 20), ar := 3 })]
theorem C__law_case : cDef N__law_case (T__law_case) cst [] (topS 21) = some (B__law_case) := by kernel_rfl
theorem S__law_case : FnScope N__law_case ["dice"] (defScope (topS 21)) := ⟨rfl, rfl, rfl, by decide +kernel, rfl, by decide +kernel, by decide +kernel⟩
def N_law : List Str := ["script", "spot"]
def B_law : ES := sSeq (sPre [] (sFor (iRng (eCons (eFz (eCall dMax2 (eCons (eFz (eOld (eCst (.int 1)))) (eCons (eFz (eCall dMin2 (eCons (eFz (eCall dLen (eCons (eVar 0) (eNil)))) (eCons (eFz (eOld (eCst (.int 6)))) (eNil))))) (eNil))))) (eNil))) (.nm 1) (sPre [] (sIf (eNot (tbV (eFz (eFn F__law_case (eCons (eFz (eOld (eLive (eFn F__law_dice (eCons (eVar 0) (eCons (eVar 1) (eNil))))))) (eNil)))))) (sPre [] (sRet (eOld (eCst (.bl false))))) (sNx))))) (sPre [] (sRet (eOld (eCst (.bl true)))))
def F_law : Fn := mkFn 2 B_law
def T_law : List (Str × R.Entry) := [("_law_case", { F := F__law_case, ar := 1 }), ("_law_dice", { F := F__law_dice, ar := 2, lv := true })]
theorem C_law : cDef N_law (T_law) cst [] (topS 22) = some (B_law) := by kernel_rfl
theorem S_law : FnScope N_law ["script"] (defScope (topS 22)) := ⟨rfl, rfl, rfl, by decide +kernel, rfl, by decide +kernel, by decide +kernel⟩
end LW

set_option Elab.async false
set_option linter.all false
set_option maxRecDepth 100000
set_option maxHeartbeats 2000000
/-! how many cases there are: the mathematics -/
namespace KM
abbrev leJ (a b : Int) : Bool := decide (a ≤ b)
theorem leJ_tr (a b c : Int) (h1 : leJ a b = true) (h2 : leJ b c = true) : leJ a c = true := decide_eq_true (Int.le_trans (of_decide_eq_true h1) (of_decide_eq_true h2))
theorem leJ_to (a b : Int) : (leJ a b || leJ b a) = true := by
  simp only [leJ, Bool.or_eq_true, decide_eq_true_eq]
  omega
def ten : List Int := [0, 1, 2, 3, 4, 5, 6, 7, 8, 9]
/-- the told cells: rising, below ten -/
structure Told (t : List Int) : Prop where
  inc : t.Pairwise (· < ·)
  sub : ∀ x ∈ t, x ∈ ten
def fresh (t : List Int) : List Int := ten.filter fun c => decide (c ∉ t)
/-- the place of a cell among the fresh ones, one more; nothing where it is told -/
def rank (fr : List Int) (c : Int) : Nat := if c ∈ fr then fr.idxOf c + 1 else 0
def opts (t fr : List Int) (u : Nat) : List Int := (t ++ fr.take (u + 1)).mergeSort leJ
def kids (t fr : List Int) (s : List Int × Nat) : List (List Int × Nat) := (opts t fr s.2).map fun c => (s.1 ++ [c], max s.2 (rank fr c))
def allC (t : List Int) : Nat → List (List Int × Nat)
  | 0 => [([], 0)]
  | n + 1 => (allC t n).flatMap (kids t (fresh t))
def num : Nat → Nat → Nat → Nat
  | 0, _, _ => 1
  | l + 1, t, u => (t + u) * num l t u + if t + u < 10 then num l t (u + 1) else 0
theorem ten_nd : ten.Nodup := by decide
theorem ten_inc : ten.Pairwise (· < ·) := by decide
section
variable {t : List Int}
theorem fresh_mem {c : Int} : c ∈ fresh t ↔ c ∈ ten ∧ c ∉ t := by
  unfold fresh
  rw [List.mem_filter, decide_eq_true_eq]
theorem fresh_inc : (fresh t).Pairwise (· < ·) := List.Pairwise.filter _ ten_inc
theorem inc_nd {l : List Int} (h : l.Pairwise (· < ·)) : l.Nodup := h.imp fun h => Int.ne_of_lt h
theorem inc_perm {l l' : List Int} (h : l.Pairwise (· < ·)) (h' : l'.Pairwise (· < ·)) (p : l.Perm l') : l = l' :=
  List.Perm.eq_of_pairwise (le := fun a b => a < b) (fun a b _ _ h1 h2 => absurd h1 (Int.lt_asymm h2)) h h' p
/-- told and fresh cells are all cells -/
theorem Told.all (T : Told t) : (t ++ fresh t).Perm ten := by
  refine (List.perm_ext_iff_of_nodup ?_ ten_nd).mpr fun c => ?_
  · refine List.nodup_append.mpr ⟨inc_nd T.inc, inc_nd fresh_inc, fun a ha b hb e => ?_⟩
    exact (fresh_mem.mp hb).2 (e ▸ ha)
  · rw [List.mem_append, fresh_mem]
    constructor
    · rintro (h | h)
      · exact T.sub c h
      · exact h.1
    · intro h
      by_cases z : c ∈ t
      · exact .inl z
      · exact .inr ⟨h, z⟩
theorem Told.len (T : Told t) : t.length + (fresh t).length = 10 := by
  have z := T.all.length_eq
  rw [List.length_append] at z
  exact z
theorem opts_perm (fr : List Int) (u : Nat) : (opts t fr u).Perm (t ++ fr.take (u + 1)) := List.mergeSort_perm _ _
theorem opts_mem {fr : List Int} {u : Nat} {c : Int} : c ∈ opts t fr u ↔ c ∈ t ∨ c ∈ fr.take (u + 1) := by
  rw [(opts_perm fr u).mem_iff, List.mem_append]
theorem Told.opts_inc (T : Told t) (u : Nat) : (opts t (fresh t) u).Pairwise (· < ·) := by
  have s : (opts t (fresh t) u).Pairwise (fun a b => leJ a b = true) := List.pairwise_mergeSort leJ_tr leJ_to _
  have nd : (opts t (fresh t) u).Nodup := by
    rw [(opts_perm _ u).nodup_iff]
    refine List.nodup_append.mpr ⟨inc_nd T.inc, (inc_nd fresh_inc).sublist (List.take_sublist ..), fun a ha b hb e => ?_⟩
    exact (fresh_mem.mp (List.mem_of_mem_take hb)).2 (e ▸ ha)
  exact List.Pairwise.imp₂ (fun a b h1 h2 => Int.lt_iff_le_and_ne.mpr ⟨of_decide_eq_true h1, h2⟩) s nd
theorem rank_told {c : Int} (h : c ∈ t) : rank (fresh t) c = 0 := by
  unfold rank
  rw [if_neg fun z => (fresh_mem.mp z).2 h]
theorem idx_take {l : List Int} (nd : l.Nodup) {j : Nat} {c : Int} (h : l[j]? = some c) : l.idxOf c = j := by
  obtain ⟨hj, e⟩ := List.getElem?_eq_some_iff.mp h
  have z : l.idxOf c < l.length := List.idxOf_lt_length_of_mem (e ▸ List.getElem_mem hj)
  have e2 : l[l.idxOf c]? = some c := by
    rw [List.getElem?_eq_getElem z, List.getElem_idxOf]
  exact (List.getElem?_inj z nd).mp (e2.trans h.symm)
theorem rank_fresh {j : Nat} {c : Int} (h : (fresh t)[j]? = some c) : rank (fresh t) c = j + 1 := by
  unfold rank
  rw [if_pos (List.mem_of_getElem? h), idx_take (inc_nd fresh_inc) h]
/-! how many -/
def gen (t : List Int) : Nat → List Int × Nat → List (List Int × Nat)
  | 0, s => [s]
  | n + 1, s => (kids t (fresh t) s).flatMap (gen t n)
theorem gen_all : ∀ (n : Nat) (ss : List (List Int × Nat)), (ss.flatMap (gen t n)).flatMap (kids t (fresh t)) = ss.flatMap (gen t (n + 1))
  | 0, ss => by
    rw [List.flatMap_assoc]
    congr 1
    funext s
    simp [gen]
  | n + 1, ss => by
    rw [List.flatMap_assoc]
    congr 1
    funext s
    show ((kids t (fresh t) s).flatMap (gen t n)).flatMap (kids t (fresh t)) = (kids t (fresh t) s).flatMap (gen t (n + 1))
    exact gen_all n _
theorem allC_gen : ∀ n : Nat, allC t n = gen t n ([], 0)
  | 0 => rfl
  | n + 1 => by
    show (allC t n).flatMap _ = _
    have z := gen_all (t := t) n [([], 0)]
    rw [allC_gen n]
    simpa using z
theorem sum_const {α : Type} (f : α → Nat) (v : Nat) : ∀ l : List α, (∀ x ∈ l, f x = v) → (l.map f).sum = l.length * v
  | [], _ => by simp
  | x :: l, h => by
    rw [List.map_cons, List.sum_cons, h x (List.mem_cons_self ..), sum_const f v l fun y hy => h y (List.mem_cons_of_mem _ hy), List.length_cons, Nat.succ_mul, Nat.add_comm]
theorem Told.gen_len (T : Told t) : ∀ (n : Nat) (s : List Int × Nat), s.2 ≤ (fresh t).length → (gen t n s).length = num n t.length s.2
  | 0, s, _ => rfl
  | n + 1, s, hs => by
    show ((kids t (fresh t) s).flatMap (gen t n)).length = _
    rw [List.length_flatMap]
    unfold kids
    rw [List.map_map]
    have hp : ((opts t (fresh t) s.2).map ((fun a => (gen t n a).length) ∘ fun c => (s.1 ++ [c], max s.2 (rank (fresh t) c)))).Perm ((t ++ (fresh t).take (s.2 + 1)).map ((fun a => (gen t n a).length) ∘ fun c => (s.1 ++ [c], max s.2 (rank (fresh t) c)))) := (opts_perm _ s.2).map _
    rw [hp.sum_nat, List.map_append, List.sum_append]
    have e1 : (t.map ((fun a => (gen t n a).length) ∘ fun c => (s.1 ++ [c], max s.2 (rank (fresh t) c)))).sum = t.length * num n t.length s.2 := sum_const _ _ _ fun c hc => by
      show (gen t n (s.1 ++ [c], max s.2 (rank (fresh t) c))).length = _
      rw [rank_told hc, Nat.max_zero]
      exact T.gen_len n (_, s.2) hs
    have low : ∀ c ∈ (fresh t).take s.2, (gen t n (s.1 ++ [c], max s.2 (rank (fresh t) c))).length = num n t.length s.2 := fun c hc => by
      obtain ⟨j, hj⟩ := List.getElem?_of_mem hc
      have hjl : j < s.2 := by
        have z := (List.getElem?_eq_some_iff.mp hj).1
        rw [List.length_take] at z
        omega
      rw [List.getElem?_take_of_lt hjl] at hj
      rw [rank_fresh hj, Nat.max_eq_left (by omega)]
      exact T.gen_len n (_, s.2) hs
    have hten := T.len
    by_cases hu : s.2 < (fresh t).length
    · have e2 : (fresh t).take (s.2 + 1) = (fresh t).take s.2 ++ [(fresh t)[s.2]] := by
        rw [List.take_add_one, List.getElem?_eq_getElem hu]
        rfl
      rw [e1, e2, List.map_append, List.sum_append]
      have e3 := sum_const ((fun a => (gen t n a).length) ∘ fun c => (s.1 ++ [c], max s.2 (rank (fresh t) c))) _ _ low
      rw [e3, List.length_take, Nat.min_eq_left (by omega)]
      have e4 : ([(fresh t)[s.2]].map ((fun a => (gen t n a).length) ∘ fun c => (s.1 ++ [c], max s.2 (rank (fresh t) c)))).sum = num n t.length (s.2 + 1) := by
        show (gen t n (s.1 ++ [(fresh t)[s.2]], max s.2 (rank (fresh t) (fresh t)[s.2]))).length + 0 = _
        rw [rank_fresh (List.getElem?_eq_getElem hu), Nat.max_eq_right (by omega), T.gen_len n (_, s.2 + 1) hu, Nat.add_zero]
      rw [e4]
      show _ = (t.length + s.2) * num n t.length s.2 + if t.length + s.2 < 10 then num n t.length (s.2 + 1) else 0
      rw [if_pos (by omega), Nat.add_mul, Nat.add_assoc]
    · have e2 : (fresh t).take (s.2 + 1) = (fresh t).take s.2 := by
        rw [List.take_of_length_le (by omega), List.take_of_length_le (by omega)]
      have e3 := sum_const ((fun a => (gen t n a).length) ∘ fun c => (s.1 ++ [c], max s.2 (rank (fresh t) c))) _ _ low
      rw [e1, e2, e3, List.length_take, Nat.min_eq_left hs]
      show _ = (t.length + s.2) * num n t.length s.2 + if t.length + s.2 < 10 then num n t.length (s.2 + 1) else 0
      rw [if_neg (by omega), Nat.add_mul, Nat.add_zero]
theorem Told.count (T : Told t) (n : Nat) : (allC t n).length = num n t.length 0 := by
  rw [allC_gen]
  exact T.gen_len n _ (Nat.zero_le _)
/-! rising -/
theorem allC_len : ∀ (n : Nat), ∀ s ∈ allC t n, s.1.length = n
  | 0, s, h => by
    rw [List.mem_singleton.mp h]
    rfl
  | n + 1, s, h => by
    obtain ⟨p, hp, hs⟩ := List.mem_flatMap.mp h
    obtain ⟨c, _, rfl⟩ := List.mem_map.mp hs
    rw [List.length_append, allC_len n p hp]
    rfl
theorem lt_snoc {a b : List Int} : ∀ (hl : a.length = b.length) (h : a < b) (x y : Int), a ++ [x] < b ++ [y] := by
  induction a generalizing b with
  | nil =>
    intro hl h x y
    cases b with
    | nil => exact absurd h (by decide)
    | cons => cases hl
  | cons p a ih =>
    intro hl h x y
    cases b with
    | nil => cases hl
    | cons q b =>
      rw [List.cons_lt_cons_iff] at h
      rw [List.cons_append, List.cons_append, List.cons_lt_cons_iff]
      rcases h with h | ⟨rfl, h⟩
      · exact .inl h
      · exact .inr ⟨rfl, ih (Nat.succ.inj hl) h x y⟩
theorem lt_snoc_eq (a : List Int) {x y : Int} (h : x < y) : a ++ [x] < a ++ [y] := by
  induction a with
  | nil => exact List.cons_lt_cons_iff.mpr (.inl h)
  | cons p a ih => exact List.cons_lt_cons_iff.mpr (.inr ⟨rfl, ih⟩)
theorem Told.rise (T : Told t) : ∀ n : Nat, (allC t n).Pairwise fun a b => a.1 < b.1
  | 0 => List.pairwise_singleton ..
  | n + 1 => by
    show ((allC t n).flatMap _).Pairwise _
    rw [List.pairwise_flatMap]
    refine ⟨fun s hs => ?_, ?_⟩
    · unfold kids
      rw [List.pairwise_map]
      exact (T.opts_inc s.2).imp fun h => lt_snoc_eq _ h
    · have h2 : (allC t n).Pairwise fun a b => (a.1 < b.1) ∧ a ∈ allC t n ∧ b ∈ allC t n := by
        have z := T.rise n
        exact List.Pairwise.and_mem.mp z |>.imp fun ⟨h1, h2, h3⟩ => ⟨h3, h1, h2⟩
      refine h2.imp fun {p q} ⟨h, hp, hq⟩ a ha b hb => ?_
      obtain ⟨c, _, rfl⟩ := List.mem_map.mp ha
      obtain ⟨d, _, rfl⟩ := List.mem_map.mp hb
      exact lt_snoc (by rw [allC_len n p hp, allC_len n q hq]) h c d
/-! fresh cells come in order -/
def firsts (t own : List Int) : List Int := ((own.mapIdx fun i c => (i, c)).filter fun x => decide (x.2 ∉ t) && decide (x.2 ∉ own.take x.1)).map (·.2)
theorem firsts_snoc (own : List Int) (c : Int) : firsts t (own ++ [c]) = firsts t own ++ if c ∉ t ∧ c ∉ own then [c] else [] := by
  unfold firsts
  rw [List.mapIdx_append, List.filter_append, List.map_append]
  congr 1
  · congr 1
    refine List.filter_congr fun x hx => ?_
    obtain ⟨i, hi, e⟩ := List.mem_mapIdx.mp hx
    subst e
    dsimp only
    rw [List.take_append_of_le_length (by omega)]
  · rw [List.mapIdx_cons, List.mapIdx_nil]
    have e : (own ++ [c]).take (0 + own.length) = own := by simp
    by_cases h : c ∉ t ∧ c ∉ own
    · rw [if_pos h, List.filter_cons_of_pos (by dsimp only; rw [e]; simp [h.1, h.2])]
      rfl
    · rw [if_neg h, List.filter_cons_of_neg (by
        dsimp only
        rw [e]
        intro z
        rw [Bool.and_eq_true, decide_eq_true_eq, decide_eq_true_eq] at z
        exact h z)]
      rfl
theorem firsts_sub {own : List Int} {c : Int} (h : c ∈ firsts t own) : c ∈ own := by
  unfold firsts at h
  obtain ⟨x, hx, rfl⟩ := List.mem_map.mp h
  obtain ⟨i, hi, e⟩ := List.mem_mapIdx.mp (List.mem_filter.mp hx).1
  rw [← e]
  exact List.getElem_mem hi
theorem Told.order (T : Told t) : ∀ (n : Nat), ∀ s ∈ allC t n, firsts t s.1 = (fresh t).take s.2 ∧ s.2 ≤ (fresh t).length ∧ ∀ c ∈ s.1, c ∈ t ∨ c ∈ (fresh t).take s.2
  | 0, s, h => by
    rw [List.mem_singleton.mp h]
    exact ⟨rfl, Nat.zero_le _, fun c h => (by cases h)⟩
  | n + 1, s, h => by
    obtain ⟨p, hp, hs⟩ := List.mem_flatMap.mp h
    obtain ⟨c, hc, rfl⟩ := List.mem_map.mp hs
    obtain ⟨i1, i2, i3⟩ := T.order n p hp
    dsimp only
    rw [firsts_snoc, i1]
    rcases opts_mem.mp hc with hc | hc
    · rw [if_neg (fun z => z.1 hc), rank_told hc, Nat.max_zero, List.append_nil]
      refine ⟨rfl, i2, fun d hd => ?_⟩
      rcases List.mem_append.mp hd with hd | hd
      · exact i3 d hd
      · rw [List.mem_singleton.mp hd]
        exact .inl hc
    · obtain ⟨j, hj⟩ := List.getElem?_of_mem hc
      have hjl : j < p.2 + 1 := by
        have z := (List.getElem?_eq_some_iff.mp hj).1
        rw [List.length_take] at z
        omega
      rw [List.getElem?_take_of_lt hjl] at hj
      have hjf := (List.getElem?_eq_some_iff.mp hj).1
      rw [rank_fresh hj]
      by_cases hju : j < p.2
      · have hm : c ∈ (fresh t).take p.2 := List.mem_of_getElem? (i := j) (by rw [List.getElem?_take_of_lt hju]; exact hj)
        have hown : c ∈ p.1 := firsts_sub (t := t) (by rw [i1]; exact hm)
        rw [if_neg (fun z => z.2 hown), Nat.max_eq_left (by omega), List.append_nil]
        refine ⟨rfl, i2, fun d hd => ?_⟩
        rcases List.mem_append.mp hd with hd | hd
        · exact i3 d hd
        · rw [List.mem_singleton.mp hd]
          exact .inr hm
      · have ej : j = p.2 := by omega
        subst ej
        have e2 : (fresh t).take (p.2 + 1) = (fresh t).take p.2 ++ [c] := by
          rw [List.take_add_one, hj]
          rfl
        have hnt : c ∉ t := (fresh_mem.mp (List.mem_of_getElem? hj)).2
        have hno : c ∉ p.1 := fun z => by
          rcases i3 c z with z | z
          · exact hnt z
          · obtain ⟨k, hk⟩ := List.getElem?_of_mem z
            have hkl : k < p.2 := by
              have z := (List.getElem?_eq_some_iff.mp hk).1
              rw [List.length_take] at z
              omega
            rw [List.getElem?_take_of_lt hkl] at hk
            have := (List.getElem?_inj hjf (inc_nd fresh_inc)).mp (hj.trans hk.symm)
            omega
        rw [if_pos ⟨hnt, hno⟩, Nat.max_eq_right (by omega), e2]
        refine ⟨rfl, hjf, fun d hd => ?_⟩
        rcases List.mem_append.mp hd with hd | hd
        · rcases i3 d hd with hd | hd
          · exact .inl hd
          · exact .inr (List.mem_append_left _ hd)
        · exact .inr (List.mem_append_right _ hd)
/-! letters left out at the end -/
def heads (l : List (List Int)) : List (List Int) := ((l.mapIdx fun i c => (i, c)).filter fun x => decide (x.1 = 0) || decide (l[x.1 - 1]? ≠ some x.2)).map (·.2)
theorem heads_snoc (l : List (List Int)) (c : List Int) : heads (l ++ [c]) = heads l ++ if l.getLast? = some c then [] else [c] := by
  unfold heads
  rw [List.mapIdx_append, List.filter_append, List.map_append]
  congr 1
  · congr 1
    refine List.filter_congr fun x hx => ?_
    obtain ⟨i, hi, e⟩ := List.mem_mapIdx.mp hx
    subst e
    dsimp only
    rw [List.getElem?_append_left (by omega)]
  · rw [List.mapIdx_cons, List.mapIdx_nil]
    by_cases h : l.getLast? = some c
    · rw [if_pos h, List.filter_cons_of_neg]
      · rfl
      · dsimp only
        rw [Nat.zero_add]
        have hl : l.length ≠ 0 := fun z => by
          rw [List.length_eq_zero_iff.mp z] at h
          cases h
        rw [List.getElem?_append_left (by omega), ← List.getLast?_eq_getElem?, h]
        simp [hl]
    · rw [if_neg h, List.filter_cons_of_pos]
      · rfl
      · dsimp only
        rw [Nat.zero_add]
        by_cases hl : l.length = 0
        · simp [hl]
        · rw [List.getElem?_append_left (by omega), ← List.getLast?_eq_getElem?]
          simp [h]
theorem last_rep (l : List (List Int)) (a : List Int) (k : Nat) : (l ++ List.replicate (k + 1) a).getLast? = some a := by
  rw [List.replicate_succ', ← List.append_assoc, List.getLast?_append]
  rfl
theorem heads_rep (l : List (List Int)) (a : List Int) (h : l.getLast? ≠ some a) : ∀ k : Nat, heads (l ++ List.replicate (k + 1) a) = heads l ++ [a]
  | 0 => by
    show heads (l ++ [a]) = _
    rw [heads_snoc, if_neg h]
  | k + 1 => by
    rw [List.replicate_succ', ← List.append_assoc, heads_snoc, last_rep, if_pos rfl, List.append_nil, heads_rep l a h k]
theorem snoc_ind {α : Type} {P : List α → Prop} (h0 : P []) (h1 : ∀ l a, P l → P (l ++ [a])) (l : List α) : P l := by
  have key : ∀ l : List α, P l.reverse := fun l => by
    induction l with
    | nil => exact h0
    | cons a l ih =>
      rw [List.reverse_cons]
      exact h1 _ _ ih
  have z := key l.reverse
  rwa [List.reverse_reverse] at z
theorem heads_groups (k : List Int × Nat → Nat) : ∀ ss : List (List Int × Nat), (ss.Pairwise fun a b => a.1 < b.1) → heads (ss.flatMap fun s => List.replicate (k s + 1) s.1) = ss.map (·.1) ∧ (ss.flatMap fun s => List.replicate (k s + 1) s.1).getLast? = (ss.map (·.1)).getLast? := by
  refine snoc_ind (fun _ => ⟨rfl, rfl⟩) fun ss s ih => ?_
  · intro h
    rw [List.pairwise_append] at h
    obtain ⟨h1, _, h3⟩ := h
    obtain ⟨a, b⟩ := ih h1
    have e : ((ss ++ [s]).flatMap fun s => List.replicate (k s + 1) s.1) = (ss.flatMap fun s => List.replicate (k s + 1) s.1) ++ List.replicate (k s + 1) s.1 := by simp
    rw [e]
    refine ⟨?_, ?_⟩
    · rw [heads_rep, a, List.map_append]
      · rfl
      · rw [b]
        intro z
        have zm : s.1 ∈ ss.map (·.1) := List.mem_of_getLast? z
        obtain ⟨p, hp, ep⟩ := List.mem_map.mp zm
        have := h3 p hp s (List.mem_singleton.mpr rfl)
        rw [ep] at this
        exact List.lt_irrefl _ this
    · rw [last_rep, List.map_append, List.getLast?_append]
      rfl
theorem Told.prefixes (T : Told t) (n : Nat) : heads (((allC t (n + 1)).map (·.1)).map (List.take n)) = (allC t n).map (·.1) := by
  have e : ((allC t (n + 1)).map (·.1)).map (List.take n) = (allC t n).flatMap fun s => List.replicate ((opts t (fresh t) s.2).length - 1 + 1) s.1 := by
    show (((allC t n).flatMap (kids t (fresh t))).map (·.1)).map (List.take n) = _
    rw [List.map_map, List.map_flatMap]
    have key : ∀ ss : List (List Int × Nat), (∀ s ∈ ss, s.1.length = n) → (ss.flatMap fun s => (kids t (fresh t) s).map (List.take n ∘ (·.1))) = ss.flatMap fun s => List.replicate ((opts t (fresh t) s.2).length - 1 + 1) s.1 := fun ss => by
      induction ss with
      | nil => exact fun _ => rfl
      | cons s ss ih =>
        intro h
        rw [List.flatMap_cons, List.flatMap_cons, ih fun x hx => h x (List.mem_cons_of_mem _ hx)]
        congr 1
        have hne : (opts t (fresh t) s.2).length ≠ 0 := by
          rw [(opts_perm _ s.2).length_eq, List.length_append, List.length_take]
          have := T.len
          omega
        rw [Nat.sub_add_cancel (Nat.pos_of_ne_zero hne)]
        unfold kids
        rw [List.map_map]
        have : (List.take n ∘ (fun x : List Int × Nat => x.1)) ∘ (fun c => (s.1 ++ [c], max s.2 (rank (fresh t) c))) = fun _ => s.1 := by
          funext c
          show (s.1 ++ [c]).take n = s.1
          rw [List.take_append_of_le_length (by rw [h s (List.mem_cons_self ..)]; exact Nat.le_refl _), List.take_of_length_le (by rw [h s (List.mem_cons_self ..)]; exact Nat.le_refl _)]
        rw [this, List.map_const']
    exact key _ (allC_len n)
  rw [e]
  exact (heads_groups _ _ (T.rise n)).1
end
end KM

set_option Elab.async false
set_option linter.all false
set_option maxRecDepth 100000
set_option maxHeartbeats 4000000
namespace LW
open PySem PySem.Spec L2 R KM
section
variable {M : List MO}
theorem e_demand {d : D} : F_demand [.bl true, d] M = some ((.non, false), M) := by
  simp [F_demand, mkFn, B_demand]
theorem e_is_in {v lo hi : Int} : F_is_in [.int v, .int lo, .int hi] M = some ((.bl (decide (lo ≤ v ∧ v ≤ hi)), false), M) := by
  by_cases h1 : lo ≤ v <;> by_cases h2 : v ≤ hi <;> simp [F_is_in, mkFn, B_is_in, h1, h2]
theorem e_is_cell {v : Int} : F_is_cell [.int v] M = some ((.bl (decide (0 ≤ v ∧ v ≤ 9)), false), M) := by
  simp [F_is_cell, mkFn, B_is_cell, e_is_in]
theorem e_is_tuple {xs : List D} {lo hi : Int} : F_is_tuple [.tup xs, .int lo, .int hi] M = some ((.bl (decide (lo ≤ (xs.length : Int) ∧ (xs.length : Int) ≤ hi)), false), M) := by
  by_cases h1 : lo ≤ (xs.length : Int) <;> by_cases h2 : (xs.length : Int) ≤ hi <;> simp [F_is_tuple, mkFn, B_is_tuple, h1, h2]
def five : List Str := ["v", "a", "k", "z", "m"]
theorem e_letter {s : Str} (h : s ∈ five) : F_is_letter [.str s] M = some ((.bl true, false), M) := by
  simp only [five, List.mem_cons, List.not_mem_nil, or_false] at h
  rcases h with rfl | rfl | rfl | rfl | rfl <;> kernel_rfl
theorem e_number : ∀ (k l t u : Nat), l < k → t + u ≤ 10 → F__law_number k [.int (l : Nat), .int (t : Nat), .int (u : Nat)] M = some ((.int (num l t u : Nat), false), M)
  | 0, _, _, _, h, _ => absurd h (Nat.not_lt_zero _)
  | k + 1, 0, t, u, h, hb => by
    simp [F__law_number, mkFn, B__law_number, num]
  | k + 1, l + 1, t, u, h, hb => by
    have i1 := e_number k l t u (by omega) hb
    have e3 : ¬ (l : Int) + 1 = 0 := by omega
    have hm : dMul (.int ((t : Int) + (u : Int))) (.int (num l t u : Nat)) = some (.int (((t : Int) + (u : Int)) * (num l t u : Nat)), false) := w_mulI (.inl ⟨by omega, by omega⟩)
    by_cases h10 : t + u < 10
    · have h10' : (t : Int) + (u : Int) < 10 := by omega
      have i2 : F__law_number k [.int (l : Nat), .int (t : Nat), .int ((u : Int) + 1)] M = some ((.int (num l t (u + 1) : Nat), false), M) := e_number k l t (u + 1) (by omega) (by omega)
      simp [F__law_number, mkFn, B__law_number, num, i1, i2, e3, hm, h10, h10']
    · have h10' : ¬ (t : Int) + (u : Int) < 10 := by omega
      simp [F__law_number, mkFn, B__law_number, num, i1, e3, hm, h10, h10']
def enc (s : List Int × Nat) : D := .tup [iT s.1, .int (s.2 : Nat)]
theorem ten_eq : rints 0 (10 : Int).toNat = dI ten := by rfl
theorem num_le : ∀ l ≤ 5, ∀ t ≤ 10, num l t 0 ≤ 100000 := by decide
theorem filter_dI (t : List Int) (xs : List Int) : ((dI xs).filter fun d => match d with
    | .int c => !decide (c ∈ t)
    | _ => true).map id = dI (xs.filter fun c => decide (c ∉ t)) := by
  rw [List.map_id]
  induction xs with
  | nil => rfl
  | cons x xs ih =>
    show (List.filter _ (.int x :: dI xs)) = _
    by_cases h : x ∈ t
    · rw [List.filter_cons_of_neg (by simp [h]), ih, List.filter_cons_of_neg (by simp [h])]
    · rw [List.filter_cons_of_pos (by simp [h]), ih, List.filter_cons_of_pos (by simp [h])]
      rfl
/-- the fresh cells -/
theorem e_fresh {env : R.Env} {t : List Int} {i j : Nat} (hij : i ≠ j) (hi : i < env.length) (hj : env[j]? = some (.fz (iL t))) : compL env (.nm i) (tbB (eFz (eOp (dIn true) (eVar i) (eVar j)))) (eVar i) (dI ten) M = some (dI (fresh t), M) := by
  rw [comp_map (fun d => match d with
    | .int c => !decide (c ∈ t)
    | _ => true) id (fun d hd => ?_), filter_dI]
  · rfl
  · obtain ⟨c, _, rfl⟩ := List.mem_map.mp hd
    refine ⟨env.set i (.fz (.int c)), by simp [hi], ?_, fun _ => ?_⟩
    · simp [List.getElem?_set_self hi, List.getElem?_set_ne hij, hj, w_niL]
    · simp [List.getElem?_set_self hi]
theorem e_all_cases {t : List Int} (T : Told t) {ls : List D} (hn : ls.length ≤ 5) : F_all_cases [.tup ls, iL t] M = some ((.lst ((allC t ls.length).map fun s => iT s.1), true), M) := by
  have hlen : ∀ n ≤ 5, (allC t n).length ≤ 100000 := fun n hn => by
    rw [T.count]
    exact num_le n hn _ (by have := T.len; omega)
  have hlim : (100000 : Nat) ≤ LIM := by decide
  have main : ∃ r M', F_all_cases [.tup ls, iL t] M = some (r, M') ∧ (r = (.lst ((allC t ls.length).map fun s => iT s.1), true) ∧ M' = M) := by
    unfold F_all_cases B_all_cases
    simp only [v_sPre0, v_eFzOld]
    refine Post.fn ?_
    refine Post.then (e1 := [.fz (.tup ls), .fz (iL t), .fz (iL (KM.fresh t)), .no, .no, .no, .no, .no, .no]) (M1 := M) ?_ ?_
    · have c : compL [.fz (.tup ls), .fz (iL t), .no, .no, .no, .no, .no, .no, .no] (.nm 3) (tbB (eFz (eOp (dIn true) (eVar 3) (eVar 1)))) (eVar 3) (rints 0 10) M = some (dI (fresh t), M) := e_fresh (by decide) (by simp) rfl
      have l1 : (KM.fresh t).length ≤ LIM := by
        have := T.len
        have : (10 : Nat) ≤ LIM := by decide
        omega
      simp [show rng62 10 = true by decide]
      rw [c]
      simp [l1]
    refine Post.then (e1 := [.fz (.tup ls), .fz (iL t), .fz (iL (KM.fresh t)), .no, .fz (.lst ((allC t 0).map enc)), .no, .no, .no, .no]) (M1 := M) ?_ ?_
    · simp [allC, enc, show (0 : Nat) ≤ LIM by decide, show (1 : Nat) ≤ LIM by decide, show (2 : Nat) ≤ LIM by decide]
    refine Post.seq (Post.loop (fun r env M' => ∃ k x3 x5 x6 x7 x8, ls.drop k = r ∧ k ≤ ls.length ∧ env = [.fz (.tup ls), .fz (iL t), .fz (iL (KM.fresh t)), x3, .fz (.lst ((allC t k).map enc)), x5, x6, x7, x8] ∧ M' = M)
      (ds := ls) (M1 := M) (by simp) ⟨0, .no, .no, .no, .no, .no, rfl, Nat.zero_le _, rfl, rfl⟩ (fun d r env M' ⟨k, x3, x5, x6, x7, x8, hd, hk, he, hM⟩ => ?_) (fun env M' ⟨k, x3, x5, x6, x7, x8, hd, hk, he, hM⟩ => ?_))
    · subst he hM
      have hkl : k < ls.length := by
        have z := congrArg List.length hd
        rw [List.length_drop, List.length_cons] at z
        omega
      have hr : ls.drop (k + 1) = r := by
        rw [← List.tail_drop, hd]
        rfl
      refine ⟨[.fz (.tup ls), .fz (iL t), .fz (iL (KM.fresh t)), x3, .fz (.lst ((allC t k).map enc)), .fz d, x6, x7, x8], by simp, ?_⟩
      refine Post.then (e1 := [.fz (.tup ls), .fz (iL t), .fz (iL (KM.fresh t)), x3, .fz (.lst ((allC t k).map enc)), .fz d, .own (.lst []), x7, x8]) (M1 := M') ?_ ?_
      · simp [show (0 : Nat) ≤ LIM by decide]
      refine Post.seq (Post.loop (fun r env M => ∃ P Q y3 y7 y8, P ++ Q = allC t k ∧ r = Q.map enc ∧ env = [.fz (.tup ls), .fz (iL t), .fz (iL (KM.fresh t)), y3, .fz (.lst ((allC t k).map enc)), .fz d, .own (.lst ((P.flatMap (kids t (KM.fresh t))).map enc)), y7, y8] ∧ M = M')
        (ds := (allC t k).map enc) (M1 := M') (by simp) ⟨[], allC t k, x3, x7, x8, rfl, rfl, rfl, rfl⟩ (fun d2 r2 env M ⟨P, Q, y3, y7, y8, hPQ, hQ, he, hM⟩ => ?_) (fun env M ⟨P, Q, y3, y7, y8, hPQ, hQ, he, hM⟩ => ?_))
      · subst he hM
        cases Q with
        | nil => cases hQ
        | cons s Q =>
          rw [List.map_cons, List.cons.injEq] at hQ
          obtain ⟨rfl, rfl⟩ := hQ
          have hs := T.order k s (hPQ ▸ List.mem_append_right _ (List.mem_cons_self ..))
          have hall : (P.flatMap (kids t (KM.fresh t))).length + ((kids t (KM.fresh t) s).length + (Q.flatMap (kids t (KM.fresh t))).length) ≤ 100000 := by
            have z := hlen (k + 1) (by omega)
            have e : allC t (k + 1) = (P ++ s :: Q).flatMap (kids t (KM.fresh t)) := by
              rw [hPQ]
              rfl
            rw [e, List.flatMap_append, List.flatMap_cons, List.length_append, List.length_append] at z
            exact z
          have hsort : dSorted [.lst (t.map D.int ++ List.map D.int ((KM.fresh t).take (s.2 + 1)))] = some (iL (opts t (KM.fresh t) s.2), true) := by
            rw [← List.map_append]
            exact w_sortL
          have hadd : dAdd (.lst (t.map D.int)) (.lst (List.map D.int ((KM.fresh t).take (s.2 + 1)))) = some (.lst (t.map D.int ++ List.map D.int ((KM.fresh t).take (s.2 + 1))), true) := w_addL (by
            rw [List.length_map, List.length_map, List.length_take]
            have := T.len
            have : (10 : Nat) ≤ LIM := by decide
            omega)
          have hcut : cutD (List.map D.int (KM.fresh t)) none (some ((s.2 : Int) + 1)) = List.map D.int ((KM.fresh t).take (s.2 + 1)) := by
            have z := cut_take (List.map D.int (KM.fresh t)) (s.2 + 1)
            rw [← List.map_take] at z
            exact z
          refine ⟨[.fz (.tup ls), .fz (iL t), .fz (iL (KM.fresh t)), y3, .fz (.lst ((allC t k).map enc)), .fz d, .own (.lst ((P.flatMap (kids t (KM.fresh t))).map enc)), .fz (iT s.1), .fz (.int (s.2 : Nat))], by simp [enc], ?_⟩
          refine Post.loop (fun r env M' => ∃ A B y3, A ++ B = opts t (KM.fresh t) s.2 ∧ r = dI B ∧ env = [.fz (.tup ls), .fz (iL t), .fz (iL (KM.fresh t)), y3, .fz (.lst ((allC t k).map enc)), .fz d, .own (.lst ((P.flatMap (kids t (KM.fresh t)) ++ A.map fun c => (s.1 ++ [c], max s.2 (rank (KM.fresh t) c))).map enc)), .fz (iT s.1), .fz (.int (s.2 : Nat))] ∧ M' = M)
            (ds := dI (opts t (KM.fresh t) s.2)) (M1 := M) (by simp [hcut, hadd, hsort, -List.map_take]) ⟨[], _, y3, rfl, rfl, by simp, rfl⟩ (fun d3 r3 env M' ⟨A, B, y3, hAB, hB, he, hM⟩ => ?_) (fun env M' ⟨A, B, y3, hAB, hB, he, hM⟩ => ?_)
          · subst he hM
            cases B with
            | nil => cases hB
            | cons c B =>
              obtain ⟨rfl, rfl⟩ := List.cons.inj hB
              have hl1 : s.1.length = k := allC_len k s (hPQ ▸ List.mem_append_right _ (List.mem_cons_self ..))
              have happ : dAdd (.tup (List.map D.int s.1)) (.tup [.int c]) = some (.tup (List.map D.int s.1 ++ [.int c]), false) := w_addT (by
                rw [List.length_map, hl1]
                have : (10 : Nat) ≤ LIM := by decide
                show k + 1 ≤ LIM
                omega)
              have hroom : (List.flatMap (kids t (KM.fresh t)) P).length + A.length < LIM := by
                have z : (kids t (KM.fresh t) s).length = A.length + (B.length + 1) := by
                  unfold kids
                  rw [List.length_map, ← hAB, List.length_append]
                  rfl
                omega
              refine ⟨[.fz (.tup ls), .fz (iL t), .fz (iL (KM.fresh t)), .fz (.int c), .fz (.lst ((allC t k).map enc)), .fz d, .own (.lst ((P.flatMap (kids t (KM.fresh t)) ++ A.map fun c => (s.1 ++ [c], max s.2 (rank (KM.fresh t) c))).map enc)), .fz (iT s.1), .fz (.int (s.2 : Nat))], by simp, ?_⟩
              refine Post.of (fl := .nx) (M' := M') (e := [.fz (.tup ls), .fz (iL t), .fz (iL (KM.fresh t)), .fz (.int c), .fz (.lst ((allC t k).map enc)), .fz d, .own (.lst ((P.flatMap (kids t (KM.fresh t)) ++ (A ++ [c]).map fun c => (s.1 ++ [c], max s.2 (rank (KM.fresh t) c))).map enc)), .fz (iT s.1), .fz (.int (s.2 : Nat))]) ?_ ⟨A ++ [c], B, .fz (.int c), by rw [List.append_assoc]; exact hAB, rfl, rfl, rfl⟩
              have l1 : (1 : Nat) ≤ LIM := by decide
              have l2 : (2 : Nat) ≤ LIM := by decide
              by_cases hm : c ∈ KM.fresh t
              · have hr1 : rank (KM.fresh t) c = (KM.fresh t).idxOf c + 1 := if_pos hm
                have hmax : (if ((KM.fresh t).idxOf c : Int) + 1 > (s.2 : Int) then ((KM.fresh t).idxOf c : Int) + 1 else (s.2 : Int)) = ((max s.2 ((KM.fresh t).idxOf c + 1) : Nat) : Int) := by
                  split <;> omega
                simp [v_sApp', w_inL, w_index, hm, happ, hroom, l1, l2, hr1, enc, hmax, -List.length_flatMap]
              · have hr1 : rank (KM.fresh t) c = 0 := if_neg hm
                have hmax : (if (0 : Int) > (s.2 : Int) then (0 : Int) else (s.2 : Int)) = (s.2 : Int) := by
                  split <;> omega
                simp [v_sApp', w_inL, hm, happ, hroom, l1, l2, hr1, enc, hmax, -List.length_flatMap]
          · subst he hM
            cases B with
            | cons => cases hB
            | nil =>
              rw [List.append_nil] at hAB
              subst hAB
              refine ⟨P ++ [s], Q, y3, .fz (iT s.1), .fz (.int (s.2 : Nat)), by rw [List.append_assoc]; exact hPQ, rfl, ?_, rfl⟩
              rw [List.flatMap_append]
              simp [kids]
      · subst he hM
        cases Q with
        | cons => cases hQ
        | nil =>
          rw [List.append_nil] at hPQ
          subst hPQ
          refine Post.of (fl := .nx) (e := [.fz (.tup ls), .fz (iL t), .fz (iL (KM.fresh t)), y3, .fz (.lst ((allC t (k + 1)).map enc)), .fz d, .fz (.lst ((allC t (k + 1)).map enc)), y7, y8]) (M' := M) (by simp [allC]) ⟨k + 1, y3, .fz d, _, y7, y8, hr, hkl, rfl, rfl⟩
    · subst he hM
      have ek : k = ls.length := by
        have := List.drop_eq_nil_iff.mp hd
        omega
      subst ek
      have c : compL [.fz (.tup ls), .fz (iL t), .fz (iL (KM.fresh t)), x3, .fz (.lst ((allC t ls.length).map enc)), x5, x6, .no, .no] (.tp [.nm 7, .nm 8]) eYes (eVar 7) ((allC t ls.length).map enc) M' = some ((allC t ls.length).map (fun s => iT s.1), M') := by
        rw [comp_all (fun d => match d with
          | .tup [x, _] => x
          | _ => .non) (fun d hd => ?_)]
        · rw [List.map_map]
          rfl
        · obtain ⟨s, _, rfl⟩ := List.mem_map.mp hd
          exact ⟨[.fz (.tup ls), .fz (iL t), .fz (iL (KM.fresh t)), x3, .fz (.lst ((allC t ls.length).map enc)), x5, x6, .fz (iT s.1), .fz (.int (s.2 : Nat))], by simp [enc], by simp [enc]⟩
      refine Post.of (fl := .rt (.lst ((allC t ls.length).map fun s => iT s.1), true)) (M' := M') (e := [.fz (.tup ls), .fz (iL t), .fz (iL (KM.fresh t)), x3, .fz (.lst ((allC t ls.length).map enc)), x5, x6, x7, x8]) ?_ ⟨rfl, rfl⟩
      simp
      rw [c]
      simp [Nat.le_trans (hlen _ hn) hlim]
  obtain ⟨r, M', e, rfl, rfl⟩ := main
  exact e
end
end LW

set_option Elab.async false
set_option linter.all false
set_option maxRecDepth 100000
set_option maxHeartbeats 4000000
namespace LW
open PySem PySem.Spec L2 R KM
theorem once_key {α : Type} [DecidableEq α] : ∀ (ks L : List α), L.Nodup → (ks.foldl addO L).Nodup ∧ ∀ k, k ∈ ks.foldl addO L ↔ k ∈ L ∨ k ∈ ks
  | [], L, h => ⟨h, fun k => by simp⟩
  | j :: ks, L, h => by
    have nd : (addO L j).Nodup := by
      unfold addO
      split
      · exact h
      · rename_i hj
        exact (List.perm_append_singleton _ _).nodup_iff.mpr (List.nodup_cons.mpr ⟨hj, h⟩)
    obtain ⟨a, b⟩ := once_key ks (addO L j) nd
    refine ⟨a, fun k => ?_⟩
    show k ∈ ks.foldl addO (addO L j) ↔ _
    rw [b k]
    unfold addO
    split
    · rename_i hj
      simp only [List.mem_cons]
      constructor
      · rintro (h | h)
        · exact .inl h
        · exact .inr (.inr h)
      · rintro (h | h | h)
        · exact .inl h
        · exact .inl (h ▸ hj)
        · exact .inr h
    · simp only [List.mem_cons, List.mem_append, List.not_mem_nil, or_false]
      constructor
      · rintro ((h | h) | h)
        · exact .inl h
        · exact .inr (.inl h)
        · exact .inr (.inr h)
      · rintro (h | h | h)
        · exact .inl (.inl h)
        · exact .inl (.inr h)
        · exact .inr h
theorem once_nodup {α : Type} [DecidableEq α] (ks : List α) : (once ks).Nodup := (once_key ks [] List.nodup_nil).1
theorem once_iff {α : Type} [DecidableEq α] {ks : List α} {k : α} : k ∈ once ks ↔ k ∈ ks := by
  have z := (once_key ks [] List.nodup_nil).2 k
  show k ∈ ks.foldl addO [] ↔ _
  simpa using z
/-- told cells, as they are taken -/
def canon (xs : List Int) : List Int := (once xs).mergeSort leI
theorem canon_mem {xs : List Int} {k : Int} : k ∈ canon xs ↔ k ∈ xs := by
  unfold canon
  rw [List.mem_mergeSort, once_iff]
theorem canon_inc (xs : List Int) : (canon xs).Pairwise (· < ·) := by
  have s : (canon xs).Pairwise (fun a b => leJ a b = true) := List.pairwise_mergeSort leJ_tr leJ_to _
  have nd : (canon xs).Nodup := (List.mergeSort_perm _ _).nodup_iff.mpr (once_nodup xs)
  exact List.Pairwise.imp₂ (fun a b h1 h2 => Int.lt_iff_le_and_ne.mpr ⟨of_decide_eq_true h1, h2⟩) s nd
theorem canon_eq {xs ys : List Int} (h : ∀ k, k ∈ xs ↔ k ∈ ys) : canon xs = canon ys :=
  inc_perm (canon_inc xs) (canon_inc ys) ((List.perm_ext_iff_of_nodup (inc_nd (canon_inc xs)) (inc_nd (canon_inc ys))).mpr fun k => by rw [canon_mem, canon_mem, h])
theorem canon_told {xs : List Int} (h : ∀ x ∈ xs, x ∈ ten) : Told (canon xs) := ⟨canon_inc xs, fun x hx => h x (canon_mem.mp hx)⟩
theorem canon_len {xs : List Int} (nd : xs.Nodup) : (canon xs).length = xs.length :=
  ((List.perm_ext_iff_of_nodup (inc_nd (canon_inc xs)) nd).mpr fun k => canon_mem).length_eq
def Ls (n : Nat) : List D := (five.take n).map .str
theorem Ls_len {n : Nat} (h : n ≤ 5) : (Ls n).length = n := by
  unfold Ls
  rw [List.length_map, List.length_take, Nat.min_eq_left]
  exact h
theorem asBls_const {α : Type} (b : Bool) : ∀ l : List α, asBls (l.map fun _ => .bl b) = some (l.map fun _ => b)
  | [] => rfl
  | x :: l => by
    show (asBls (l.map fun _ => .bl b)).map _ = _
    rw [asBls_const b l]
    rfl
theorem all_true {ds : List D} {f : D → D} (h : ∀ d ∈ ds, f d = .bl true) : dAll [.lst (ds.map f)] = some (.bl true, false) := by
  have e : ds.map f = ds.map fun _ => .bl true := List.map_congr_left h
  rw [e]
  show (asBls _).map _ = _
  rw [asBls_const]
  show some (D.bl ((ds.map fun _ => true).all id), false) = _
  have : (ds.map fun _ => true).all id = true := List.all_eq_true.mpr fun x hx => by
    obtain ⟨_, _, rfl⟩ := List.mem_map.mp hx
    rfl
  rw [this]
section
variable {M : List MO}
theorem lenset (n : Nat) (h : n ≤ 5) : dLenSet (.tup (Ls n)) = some (.int (n : Nat), false) := by
  match n, h with
  | 0, _ => kernel_rfl
  | 1, _ => kernel_rfl
  | 2, _ => kernel_rfl
  | 3, _ => kernel_rfl
  | 4, _ => kernel_rfl
  | 5, _ => kernel_rfl
theorem sortset {xs : List Int} (h : xs.length ≤ 10) : dSortSet (iT xs) = some (iL (canon xs), true) := by
  unfold dSortSet
  have e : seqOf (iT xs) = some (dI xs) := rfl
  rw [e]
  dsimp only
  have hl : (dI xs).length + 1 < scanBound := by
    rw [List.length_map]
    unfold scanBound
    omega
  rw [if_pos hl, asInts_int]
  rfl
theorem ten_range {x : Int} (h : x ∈ ten) : 0 ≤ x ∧ x ≤ 9 := by
  simp only [ten, List.mem_cons, List.not_mem_nil, or_false] at h
  omega
theorem e_cases {n : Nat} (hn : n ≤ 5) {told : List Int} (hl : told.length ≤ 10) (hs : ∀ x ∈ told, x ∈ ten) : F_cases [.tup (Ls n), iT told] M = some ((.tup ((allC (canon told) n).map fun s => iT s.1), false), M) := by
  have T := canon_told hs
  have ha := e_all_cases (M := M) T (ls := Ls n) (by rw [Ls_len hn]; exact hn)
  rw [Ls_len hn] at ha
  have main : ∃ r M', F_cases [.tup (Ls n), iT told] M = some (r, M') ∧ (r = (.tup ((allC (canon told) n).map fun s => iT s.1), false) ∧ M' = M) := by
    unfold F_cases B_cases
    simp only [v_sPre0, v_eFzOld]
    refine Post.fn ?_
    refine Post.then (e1 := [.fz (.tup (Ls n)), .fz (iT told), .no]) (M1 := M) ?_ ?_
    · have c : compL [.fz (.tup (Ls n)), .fz (iT told), .no] (.nm 2) eYes (eFz (eFn F_is_letter (eCons (eVar 2) eNil))) (Ls n) M = some ((Ls n).map fun _ => .bl true, M) := comp_all (fun _ => .bl true) fun d hd => by
        obtain ⟨s, hs', rfl⟩ := List.mem_map.mp hd
        exact ⟨[.fz (.tup (Ls n)), .fz (iT told), .fz (.str s)], by simp, by simp [e_letter (List.mem_of_mem_take hs')]⟩
      have al : dAll [.lst ((Ls n).map fun _ => .bl true)] = some (.bl true, false) := all_true fun _ _ => rfl
      have hlim : n ≤ LIM := by
        have : (10 : Nat) ≤ LIM := by decide
        omega
      simp [e_is_tuple, Ls_len hn, show (n : Int) ≤ 8 by omega]
      rw [c]
      simp [Ls_len hn, hlim, al, e_demand]
    refine Post.then (e1 := [.fz (.tup (Ls n)), .fz (iT told), .no]) (M1 := M) ?_ ?_
    · simp [lenset n hn, Ls_len hn, e_demand]
    refine Post.then (e1 := [.fz (.tup (Ls n)), .fz (iT told), .no]) (M1 := M) ?_ ?_
    · have c : compL [.fz (.tup (Ls n)), .fz (iT told), .no] (.nm 2) eYes (eFz (eFn F_is_cell (eCons (eVar 2) eNil))) (dI told) M = some ((dI told).map fun _ => .bl true, M) := comp_all (fun _ => .bl true) fun d hd => by
        obtain ⟨s, hs', rfl⟩ := List.mem_map.mp hd
        have z := ten_range (hs s hs')
        exact ⟨[.fz (.tup (Ls n)), .fz (iT told), .fz (.int s)], by simp, by simp [e_is_cell, z]⟩
      have al : dAll [.lst ((dI told).map fun _ => .bl true)] = some (.bl true, false) := all_true fun _ _ => rfl
      have hlim : told.length ≤ LIM := by
        have : (10 : Nat) ≤ LIM := by decide
        omega
      simp [e_is_tuple, show (told.length : Int) ≤ 10 by omega]
      rw [c]
      simp [hlim, al, e_demand, -List.map_map]
    refine Post.then (e1 := [.fz (.tup (Ls n)), .fz (iT told), .no]) (M1 := M) ?_ ?_
    · simp [Ls_len hn, show ¬ (6 : Int) < (n : Int) by omega]
    refine Post.of (fl := .rt (.tup ((allC (canon told) n).map fun s => iT s.1), false)) (M' := M) (e := [.fz (.tup (Ls n)), .fz (iT told), .no]) ?_ ⟨rfl, rfl⟩
    simp [sortset hl, ha]
  obtain ⟨r, M', e, rfl, rfl⟩ := main
  exact e
end
end LW

set_option Elab.async false
set_option linter.all false
set_option maxRecDepth 100000
set_option maxHeartbeats 4000000
namespace LW
open PySem PySem.Spec L2 R KM
/-- the dice at n, so often rolled -/
def DOk (n k : Nat) (M : List MO) : Prop := ∃ a b c : Int, M[n]? = some (.lst [.int a, .int b, .int c]) ∧ 0 ≤ a ∧ 0 ≤ b ∧ b < 2147480009 ∧ 0 ≤ c ∧ c ≤ k
theorem at3_0 {x y z : D} : atI [x, y, z] 0 = some x := rfl
theorem at3_1 {x y z : D} : atI [x, y, z] 1 = some y := rfl
theorem at3_2 {x y z : D} : atI [x, y, z] 2 = some z := rfl
theorem ix3_0 : ixN 3 0 = some 0 := rfl
theorem ix3_1 : ixN 3 1 = some 1 := rfl
theorem ix3_2 : ixN 3 2 = some 2 := rfl
theorem roll {M : List MO} {n k : Nat} {total : Int} (h : DOk n k M) (hk : k < 2 ^ 60) (ht : 0 < total) (ht2 : total < 1073741824) :
    ∃ r M', F__law_roll [.obj n, .int total] M = some ((.int r, false), M') ∧ 0 ≤ r ∧ r < total ∧ DOk n (k + 1) M' ∧ M'.length = M.length := by
  obtain ⟨a, b, c, hM, ha, hb, hb2, hc, hck⟩ := h
  have hn : n < M.length := (List.getElem?_eq_some_iff.mp hM).1
  unfold F__law_roll B__law_roll
  simp only [v_sPre0, v_eFzOld]
  by_cases hp : 0 < a
  · refine ⟨a % total, M.set n (.lst [.int (a / total), .int b, .int c]), ?_, Int.emod_nonneg _ (by omega), Int.emod_lt_of_pos _ ht, ⟨a / total, b, c, by rw [List.getElem?_set_self hn], Int.ediv_nonneg ha (by omega), hb, hb2, hc, by omega⟩, by rw [List.length_set]⟩
    simp [mkFn, hM, at3_0, at3_1, at3_2, ix3_0, hp, v_sSub, w_modI ht, w_divI ⟨ht, ht2⟩]
  · have ea : a = 0 := by omega
    subst ea
    have m1 : dMul (.int (c + 1)) (.int (c + 1)) = some (.int ((c + 1) * (c + 1)), false) := w_mulI (.inl ⟨by omega, by omega⟩)
    have m2 : dMul (.int ((c + 1) * (c + 1))) (.int 2003) = some (.int ((c + 1) * (c + 1) * 2003), false) := w_mulI (.inr ⟨by decide, by decide⟩)
    have m3 : dMul (.int b) (.int 48271) = some (.int (b * 48271), false) := w_mulI (.inr ⟨by decide, by decide⟩)
    have m4 : ∀ x : Int, dMod (.int x) (.int 2147480009) = some (.int (x % 2147480009), false) := fun x => w_modI (by decide)
    have m5 : ∀ x : Int, dDiv (.int x) (.int 197) = some (.int (x / 197), false) := fun x => w_divI (by decide)
    refine ⟨(b * 48271 + (c + 1) * (c + 1) * 2003 + 91) % 2147480009 / 197 % total, M.set n (.lst [.int 0, .int ((b * 48271 + (c + 1) * (c + 1) * 2003 + 91) % 2147480009), .int (c + 1)]), ?_, Int.emod_nonneg _ (by omega), Int.emod_lt_of_pos _ ht, ⟨0, _, c + 1, by rw [List.getElem?_set_self hn], by omega, Int.emod_nonneg _ (by decide), Int.emod_lt_of_pos _ (by decide), by omega, by omega⟩, by rw [List.length_set]⟩
    simp [mkFn, hM, List.getElem?_set_self hn, at3_0, at3_1, at3_2, ix3_0, ix3_1, ix3_2, v_sSub, m1, m2, m3, m4, m5, w_modI ht, List.set_set]
theorem dice {M : List MO} {script : List Int} {spot : Nat} (hs : spot < 64) : ∃ a b : Int, F__law_dice [.scr (dI script), .int (spot : Nat)] M = some ((.lst [.int a, .int b, .int 0], true), M) ∧ 0 ≤ a ∧ 0 ≤ b ∧ b < 2147480009 := by
  have hl1 : (1 : Nat) ≤ LIM := by decide
  have hl3 : (3 : Nat) ≤ LIM := by decide
  have main : ∃ r M', F__law_dice [.scr (dI script), .int (spot : Nat)] M = some (r, M') ∧ ∃ a b : Int, r = (.lst [.int a, .int b, .int 0], true) ∧ M' = M ∧ 0 ≤ a ∧ 0 ≤ b ∧ b < 2147480009 := by
    unfold F__law_dice B__law_dice
    simp only [v_sPre0, v_eFzOld]
    refine Post.fn ?_
    obtain ⟨own, hown⟩ : ∃ own : Int, (eIf (tbB (eFz (eOp dLt (eVar 1) (eFz (eCall dLen (eCons (eVar 0) eNil)))))) (eIxM (eVar 0) (eVar 1)) (eOp dAdd (eFz (eOp dMul (eCst (.int 907)) (eVar 1))) (eCst (.int 41)))) [.fz (.scr (dI script)), .fz (.int (spot : Nat)), .no, .no, .no] M = some ((.int own, false), M) := by
      by_cases h : spot < script.length
      · refine ⟨script[spot], ?_⟩
        have ha : atI (dI script) (spot : Int) = some (.int script[spot]) := by
          rw [atI_nat', List.getElem?_map, List.getElem?_eq_getElem h]
          rfl
        simp [h, ha]
      · refine ⟨907 * (spot : Int) + 41, ?_⟩
        have hm : dMul (.int 907) (.int (spot : Nat)) = some (.int (907 * (spot : Int)), false) := w_mulI (.inl ⟨by decide, by decide⟩)
        simp [h, hm]
    refine Post.then (e1 := [.fz (.scr (dI script)), .fz (.int (spot : Nat)), .fz (.int own), .no, .no]) (M1 := M) ?_ ?_
    · change sSet 2 _ [.fz (.scr (dI script)), .fz (.int (spot : Nat)), .no, .no, .no] M = _
      unfold sSet
      rw [v_eOld, v_eFz, hown]
      rfl
    have hm : dMul (.int 6997) (.int (spot : Nat)) = some (.int (6997 * (spot : Int)), false) := w_mulI (.inl ⟨by decide, by decide⟩)
    refine Post.then (e1 := [.fz (.scr (dI script)), .fz (.int (spot : Nat)), .fz (.int own), .fz (.int (700067 + 6997 * (spot : Int))), .no]) (M1 := M) (by simp [hm]) ?_
    have hcut : cutD (List.map D.int script) none (some 6) = List.map D.int (script.take 6) := by
      have z := cut_take (List.map D.int script) 6
      rw [← List.map_take] at z
      exact z
    have hadd : dAdd (.lst (List.map D.int (script.take 6))) (.lst [.int own]) = some (.lst (List.map D.int (script.take 6) ++ [.int own]), true) := w_addL (by
      rw [List.length_map, List.length_take]
      have : (10 : Nat) ≤ LIM := by decide
      show min 6 script.length + 1 ≤ LIM
      omega)
    refine Post.seq (Post.loop (fun r env M' => ∃ (b : Int) (x4 : Sl) (cs : List Int), r = dI cs ∧ env = [.fz (.scr (dI script)), .fz (.int (spot : Nat)), .fz (.int own), .fz (.int b), x4] ∧ 0 ≤ b ∧ b < 2147480009 ∧ M' = M)
      (ds := dI (script.take 6 ++ [own])) (M1 := M) (by simp [hcut, hadd, hl1, -List.map_take]) ⟨_, _, _, rfl, rfl, by omega, by omega, rfl⟩ (fun d r env M' ⟨b, x4, cs, hr, he, h0, h1, hM⟩ => ?_) (fun env M' ⟨b, x4, cs, hr, he, h0, h1, hM⟩ => ?_))
    · subst he hM
      cases cs with
      | nil => cases hr
      | cons c cs =>
        obtain ⟨rfl, rfl⟩ := List.cons.inj hr
        have m1 : dMul (.int b) (.int 69621) = some (.int (b * 69621), false) := w_mulI (.inr ⟨by decide, by decide⟩)
        have m2 : ∀ x : Int, dMod (.int x) (.int 2147480009) = some (.int (x % 2147480009), false) := fun x => w_modI (by decide)
        refine ⟨[.fz (.scr (dI script)), .fz (.int (spot : Nat)), .fz (.int own), .fz (.int b), .fz (.int c)], by simp, ?_⟩
        refine Post.of (fl := .nx) (M' := M') (e := [.fz (.scr (dI script)), .fz (.int (spot : Nat)), .fz (.int own), .fz (.int ((b * 69621 + c % 2147480009) % 2147480009)), .fz (.int c)]) (by simp [m1, m2]) ⟨_, _, cs, rfl, rfl, Int.emod_nonneg _ (by decide), Int.emod_lt_of_pos _ (by decide), rfl⟩
    · subst he hM
      have hp : dPow (.int 10) (.int 16) = some (.int 10000000000000000, false) := by rfl
      by_cases h : own < 0
      · exact Post.of (fl := .rt (.lst [.int (-own), .int b, .int 0], true)) (M' := M') (e := [.fz (.scr (dI script)), .fz (.int (spot : Nat)), .fz (.int own), .fz (.int b), x4]) (by simp [h, hl3]) ⟨_, _, rfl, rfl, by omega, h0, h1⟩
      · by_cases h2 : 10000000000000000 ≤ own
        · exact Post.of (fl := .rt (.lst [.int own, .int b, .int 0], true)) (M' := M') (e := [.fz (.scr (dI script)), .fz (.int (spot : Nat)), .fz (.int own), .fz (.int b), x4]) (by simp [h, h2, hp, hl3]) ⟨_, _, rfl, rfl, by omega, h0, h1⟩
        · exact Post.of (fl := .rt (.lst [.int 0, .int b, .int 0], true)) (M' := M') (e := [.fz (.scr (dI script)), .fz (.int (spot : Nat)), .fz (.int own), .fz (.int b), x4]) (by simp [h, h2, hp, hl3]) ⟨_, _, rfl, rfl, by omega, h0, h1⟩
  obtain ⟨r, M', e, a, b, rfl, rfl, h⟩ := main
  exact ⟨a, b, e, h⟩
end LW

set_option Elab.async false
set_option linter.all false
set_option maxRecDepth 100000
set_option maxHeartbeats 8000000
namespace LW
open PySem PySem.Spec L2 R KM
theorem e_freshT {M : List MO} {env : R.Env} {t : List Int} {i j : Nat} (hij : i ≠ j) (hi : i < env.length) (hj : env[j]? = some (.fz (iT t))) : compL env (.nm i) (tbB (eFz (eOp (dIn true) (eVar i) (eVar j)))) (eVar i) (dI ten) M = some (dI (fresh t), M) := by
  have z := comp_on (env := env) (tg := .nm i) (cond := tbB (eFz (eOp (dIn true) (eVar i) (eVar j)))) (elt := eVar i) (M := M) D.int (fun c => !decide (c ∈ t)) D.int (xs := ten) fun c _ => ⟨env.set i (.fz (.int c)), by simp [hi], by simp [List.getElem?_set_self hi, List.getElem?_set_ne hij, hj, w_niT], fun _ => by simp [List.getElem?_set_self hi]⟩
  rw [z]
  unfold KM.fresh
  have e : (fun c => !decide (c ∈ t)) = fun c => decide (c ∉ t) := by
    funext c
    by_cases h : c ∈ t <;> simp [h]
  rw [e]
theorem fresh_congr {a b : List Int} (h : ∀ k, k ∈ a ↔ k ∈ b) : KM.fresh a = KM.fresh b := by
  unfold KM.fresh
  refine List.filter_congr fun c _ => ?_
  by_cases z : c ∈ b
  · simp [z, (h c).mpr z]
  · have y : c ∉ a := fun y => z ((h c).mp y)
    simp [z, y]
theorem firsts_congr {a b own : List Int} (h : ∀ k, k ∈ a ↔ k ∈ b) : firsts a own = firsts b own := by
  unfold firsts
  congr 1
  refine List.filter_congr fun c _ => ?_
  by_cases z : c.2 ∈ b
  · simp [z, (h c.2).mpr z]
  · have y : c.2 ∉ a := fun y => z ((h c.2).mp y)
    simp [z, y]
theorem num_mono : ∀ l ≤ 5, ∀ t ≤ 3, num l t 0 ≤ num l (t + 1) 0 := by decide
theorem canon_ten : canon ten = ten := inc_perm (canon_inc ten) ten_inc ((List.perm_ext_iff_of_nodup (inc_nd (canon_inc ten)) ten_nd).mpr fun k => canon_mem)
/-- the drawn told cells -/
structure Drawn (told : List Int) : Prop where
  nd : told.Nodup
  sub : ∀ x ∈ told, x ∈ ten
  len : told.length ≤ 4
def rows (told : List Int) (m : Nat) : List (List Int) := (allC (canon told) m).map (·.1)
theorem rows_map (told : List Int) (m : Nat) : ((allC (canon told) m).map fun s => iT s.1) = (rows told m).map iT := by
  unfold rows
  rw [List.map_map]
  rfl
section
variable {M : List MO} {told : List Int}
theorem Drawn.tl (T : Drawn told) : Told (canon told) := canon_told T.sub
theorem d_cases (T : Drawn told) {m : Nat} (hm : m ≤ 5) : F_cases [.tup (Ls m), iT told] M = some ((.tup ((rows told m).map iT), false), M) := by
  rw [e_cases hm (by have := T.len; omega) T.sub, rows_map]
theorem d_len (T : Drawn told) (m : Nat) : (rows told m).length = num m told.length 0 := by
  unfold rows
  rw [List.length_map, T.tl.count, canon_len T.nd]
theorem d_rise (T : Drawn told) (m : Nat) : (rows told m).Pairwise fun a b => a < b := by
  unfold rows
  rw [List.pairwise_map]
  exact T.tl.rise m
theorem d_sort (T : Drawn told) (m : Nat) : sortD ((rows told m).map iT) = some (.lst ((rows told m).map iT), true) := by
  refine sort_rows (d_rise T m) fun x hx => ?_
  unfold rows at hx
  obtain ⟨s, hs, rfl⟩ := List.mem_map.mp hx
  have z := allC_len m s hs
  cases m with
  | zero => exact .inr (by unfold rows; rw [List.length_map]; show 1 < 2; decide)
  | succ m => exact .inl fun e => by rw [e] at z; cases z
theorem Ls_cut (m k : Nat) : cutD (Ls m) none (some (k : Int)) = Ls (min k m) := by
  rw [cut_take]
  unfold Ls
  rw [← List.map_take, List.take_take]
end
/-- letters left out at the end -/
theorem parts_ok {M : List MO} {told : List Int} (T : Drawn told) {m : Nat} {env : R.Env} {PL : List (List Int)} (h8 : env[8]? = some (.fz (.lst (PL.map iT)))) (h9 : 9 < env.length) (h10 : 10 < env.length) :
    compL env (.tp [.nm 10, .nm 9]) (eOr (tbB (eFz (eOp dEq (eVar 10) (eCst (.int 0))))) (tbB (eFz (eOp dNe (eFz (eIxM (eVar 8) (eFz (eOp dSub (eVar 10) (eCst (.int 1)))))) (eVar 9))))) (eVar 9) (enumD (PL.map iT)) M = some ((heads PL).map iT, M) := by
  rw [enumD_map]
  have z := comp_on (env := env) (tg := .tp [.nm 10, .nm 9]) (cond := eOr (tbB (eFz (eOp dEq (eVar 10) (eCst (.int 0))))) (tbB (eFz (eOp dNe (eFz (eIxM (eVar 8) (eFz (eOp dSub (eVar 10) (eCst (.int 1)))))) (eVar 9))))) (elt := eVar 9) (M := M)
    (fun p : Nat × List Int => D.tup [.int (p.1 : Nat), iT p.2]) (fun x => decide (x.1 = 0) || decide (PL[x.1 - 1]? ≠ some x.2)) (fun p => iT p.2) (xs := PL.mapIdx fun i x => (i, x)) fun p hp => by
      have hp := mem_mapIdx_pair hp
      obtain ⟨i, x⟩ := p
      dsimp only at hp
      have e8 : ((env.set 10 (.fz (.int (i : Nat)))).set 9 (.fz (iT x)))[8]? = some (.fz (.lst (PL.map iT))) := by
        rw [List.getElem?_set_ne (by decide), List.getElem?_set_ne (by decide)]
        exact h8
      have e9 : ((env.set 10 (.fz (.int (i : Nat)))).set 9 (.fz (iT x)))[9]? = some (.fz (iT x)) := List.getElem?_set_self (by simpa using h9)
      have e10 : ((env.set 10 (.fz (.int (i : Nat)))).set 9 (.fz (iT x)))[10]? = some (.fz (.int (i : Nat))) := by
        rw [List.getElem?_set_ne (by decide)]
        exact List.getElem?_set_self h10
      refine ⟨(env.set 10 (.fz (.int (i : Nat)))).set 9 (.fz (iT x)), by simp [h9, h10], ?_, fun _ => by simp only [v_eVar, e9]⟩
      cases i with
      | zero => simp only [v_eOr, v_tbB, v_eFz, v_eOp, v_eVar, e10, v_eCst, Option.map, w_eqI]; rfl
      | succ i =>
        have hl : i < PL.length := by
          have := (List.getElem?_eq_some_iff.mp hp).1
          omega
        have ha : atI (PL.map iT) ((i : Nat) : Int) = some (iT PL[i]) := by
          rw [atI_nat', List.getElem?_map, List.getElem?_eq_getElem hl]
          rfl
        have e1 : ((i + 1 : Nat) : Int) - 1 = (i : Nat) := by omega
        have e0 : ¬ ((i + 1 : Nat) : Int) = 0 := by omega
        simp only [v_eOr, v_tbB, v_eFz, v_eOp, v_eVar, e8, e9, e10, v_eCst, Option.map, w_eqI, e0, decide_false, v_eIxM, w_subI, e1, w_ixL, ha, w_neT, Nat.add_sub_cancel, List.getElem?_eq_getElem hl]
        simp
  rw [z]
  unfold heads
  rw [List.map_map]
  rfl
/-- the fresh cells of one case -/
theorem firsts_ok {M : List MO} {told own : List Int} {env : R.Env} (h2 : env[2]? = some (.fz (iT told))) (h9 : env[9]? = some (.fz (iT own))) (h4 : 4 < env.length) (h10 : 10 < env.length) :
    compL env (.tp [.nm 10, .nm 4]) (eAnd (tbB (eFz (eOp (dIn true) (eVar 4) (eVar 2)))) (tbB (eFz (eOp (dIn true) (eVar 4) (eFz (eSl (eVar 9) eNoP (eSomeP (eVar 10)))))))) (eVar 4) (enumD (dI own)) M = some (dI (firsts told own), M) := by
  rw [enumD_map]
  have z := comp_on (env := env) (tg := .tp [.nm 10, .nm 4]) (cond := eAnd (tbB (eFz (eOp (dIn true) (eVar 4) (eVar 2)))) (tbB (eFz (eOp (dIn true) (eVar 4) (eFz (eSl (eVar 9) eNoP (eSomeP (eVar 10)))))))) (elt := eVar 4) (M := M)
    (fun p : Nat × Int => D.tup [.int (p.1 : Nat), .int p.2]) (fun x => decide (x.2 ∉ told) && decide (x.2 ∉ own.take x.1)) (fun p => .int p.2) (xs := own.mapIdx fun i x => (i, x)) fun p hp => by
      obtain ⟨i, x⟩ := p
      have e2 : ((env.set 10 (.fz (.int (i : Nat)))).set 4 (.fz (.int x)))[2]? = some (.fz (iT told)) := by
        rw [List.getElem?_set_ne (by decide), List.getElem?_set_ne (by decide)]
        exact h2
      have e9 : ((env.set 10 (.fz (.int (i : Nat)))).set 4 (.fz (.int x)))[9]? = some (.fz (iT own)) := by
        rw [List.getElem?_set_ne (by decide), List.getElem?_set_ne (by decide)]
        exact h9
      have e4 : ((env.set 10 (.fz (.int (i : Nat)))).set 4 (.fz (.int x)))[4]? = some (.fz (.int x)) := List.getElem?_set_self (by simpa using h4)
      have e10 : ((env.set 10 (.fz (.int (i : Nat)))).set 4 (.fz (.int x)))[10]? = some (.fz (.int (i : Nat))) := by
        rw [List.getElem?_set_ne (by decide)]
        exact List.getElem?_set_self h10
      have hcut : cutD (dI own) none (some (i : Int)) = dI (own.take i) := by
        rw [cut_take, ← List.map_take]
      refine ⟨(env.set 10 (.fz (.int (i : Nat)))).set 4 (.fz (.int x)), by simp [h4, h10], ?_, fun _ => by simp only [v_eVar, e4]⟩
      by_cases a : x ∈ told
      · simp only [v_eAnd, v_tbB, v_eFz, v_eOp, v_eVar, e4, e2, Option.map, w_niT, a, decide_true, not_true_eq_false, decide_false, Bool.not_true, Bool.false_and]
      · simp only [v_eAnd, v_tbB, v_eFz, v_eOp, v_eVar, e4, e2, e9, e10, Option.map, w_niT, a, decide_false, Bool.not_false, not_false_eq_true, decide_true, Bool.true_and, v_eSl, v_eNoP, v_eSomeP, w_sl, hcut]
        by_cases b : x ∈ own.take i <;> simp [b]
  rw [z]
  unfold firsts dI
  rw [List.map_map]
  rfl
end LW

set_option Elab.async false
set_option linter.all false
set_option maxRecDepth 100000
set_option maxHeartbeats 8000000
namespace LW
open PySem PySem.Spec L2 R KM
theorem Drawn.nil : Drawn [] := ⟨List.nodup_nil, fun x h => (by cases h), Nat.zero_le _⟩
theorem Drawn.with {told : List Int} (T : Drawn told) {c : Int} (hc : c ∈ ten) (hn : c ∉ told) (hl : told.length < 4) : Drawn (told ++ [c]) := by
  refine ⟨(List.perm_append_singleton _ _).nodup_iff.mpr (List.nodup_cons.mpr ⟨hn, T.nd⟩), fun x hx => ?_, by rw [List.length_append]; show told.length + 1 ≤ 4; omega⟩
  rcases List.mem_append.mp hx with h | h
  · exact T.sub x h
  · rw [List.mem_singleton.mp h]
    exact hc
theorem ten_of {x : Int} (h0 : 0 ≤ x) (h1 : x < 10) : x ∈ ten := by
  simp only [ten, List.mem_cons, List.not_mem_nil, or_false]
  omega
theorem law_case {M : List MO} {n : Nat} (h : DOk n 0 M) : ∃ M', F__law_case [.obj n] M = some ((.bl true, false), M') ∧ M'.length = M.length := by
  have q1 : (1 : Nat) ≤ LIM := by decide
  have q2 : (2 : Nat) ≤ LIM := by decide
  have q3 : (3 : Nat) ≤ LIM := by decide
  have q5 : (5 : Nat) ≤ LIM := by decide
  have q10 : (10 : Nat) ≤ LIM := by decide
  have q0 : (0 : Nat) ≤ LIM := by decide
  have qb : (100000 : Nat) ≤ LIM := by decide
  have main : ∃ r M', F__law_case [.obj n] M = some (r, M') ∧ r = (.bl true, false) ∧ M'.length = M.length := by
    unfold F__law_case B__law_case
    simp only [v_sPre0, v_eFzOld]
    refine Post.fn ?_
    -- how many letters
    obtain ⟨r0, M1, hr0, r00, r01, D1, L1⟩ := roll h (by decide) (show (0 : Int) < 6 by decide) (by decide)
    obtain ⟨m, rfl⟩ : ∃ m : Nat, r0 = m := ⟨r0.toNat, by omega⟩
    have hm : m ≤ 5 := by omega
    refine Post.then (e1 := [.fz (.obj n), .fz (.int (m : Nat)), .fz (iT []), .no, .no, .no, .no, .no, .no, .no, .no, .no, .no, .no]) (M1 := M1) (by simp [hr0, q0, q2]) ?_
    -- told cells
    obtain ⟨r1, M2, hr1, r10, r11, D2, L2'⟩ := roll D1 (by decide) (show (0 : Int) < 5 by decide) (by decide)
    have hrng : rng62 r1 = true := decide_eq_true ⟨by omega, by omega⟩
    refine Post.seq (Post.loop (fun r env M' => ∃ (told : List Int) (x3 x4 : Sl) (k : Nat), Drawn told ∧ told.length + r.length ≤ 4 ∧ k + r.length ≤ 10 ∧ env = [.fz (.obj n), .fz (.int (m : Nat)), .fz (iT told), x3, x4, .no, .no, .no, .no, .no, .no, .no, .no, .no] ∧ DOk n k M' ∧ M'.length = M.length)
      (ds := rints 0 r1.toNat) (M1 := M2) (by simp [hr1, hrng]) ⟨[], _, _, 2, Drawn.nil, by rw [ints_len]; show 0 + _ ≤ 4; omega, by rw [ints_len]; omega, rfl, D2, by omega⟩ (fun d r env M' ⟨told, x3, x4, k, T, hl, hk, he, hD, hL⟩ => ?_) (fun env M' ⟨told, x3, x4, k, T, hl, hk, he, hD, hL⟩ => ?_))
    · subst he
      rw [List.length_cons] at hl hk
      obtain ⟨c, M3, hc, c0, c1, D3, L3⟩ := roll hD (by omega) (show (0 : Int) < 10 by decide) (by decide)
      refine ⟨[.fz (.obj n), .fz (.int (m : Nat)), .fz (iT told), .fz d, x4, .no, .no, .no, .no, .no, .no, .no, .no, .no], by simp, ?_⟩
      refine Post.then (e1 := [.fz (.obj n), .fz (.int (m : Nat)), .fz (iT told), .fz d, .fz (.int c), .no, .no, .no, .no, .no, .no, .no, .no, .no]) (M1 := M3) (by simp [hc]) ?_
      by_cases hin : c ∈ told
      · have ha : dAdd (.tup (List.map D.int told)) (.tup []) = some (.tup (List.map D.int told ++ []), false) := w_addT (by rw [List.length_map]; show told.length + 0 ≤ LIM; omega)
        exact Post.of (fl := .nx) (M' := M3) (e := [.fz (.obj n), .fz (.int (m : Nat)), .fz (iT told), .fz d, .fz (.int c), .no, .no, .no, .no, .no, .no, .no, .no, .no]) (by simp [w_niT, hin, ha, q0]) ⟨told, _, _, k + 1, T, by omega, by omega, rfl, D3, by omega⟩
      · have ha : dAdd (.tup (List.map D.int told)) (.tup [.int c]) = some (.tup (List.map D.int told ++ [.int c]), false) := w_addT (by rw [List.length_map]; show told.length + 1 ≤ LIM; omega)
        exact Post.of (fl := .nx) (M' := M3) (e := [.fz (.obj n), .fz (.int (m : Nat)), .fz (iT (told ++ [c])), .fz d, .fz (.int c), .no, .no, .no, .no, .no, .no, .no, .no, .no]) (by simp [w_niT, hin, ha, q1]) ⟨told ++ [c], _, _, k + 1, T.with (ten_of c0 c1) hin (by omega), by rw [List.length_append]; show told.length + 1 + r.length ≤ 4; omega, by omega, rfl, D3, by omega⟩
    subst he
    -- letters, found
    have hfive : cutD [D.str "v", D.str "a", D.str "k", D.str "z", D.str "m"] none (some (m : Int)) = Ls m := by
      rw [cut_take]
      unfold Ls five
      rw [List.map_take]
      rfl
    refine Post.then (e1 := [.fz (.obj n), .fz (.int (m : Nat)), .fz (iT told), x3, x4, .fz (.tup (Ls m)), .no, .no, .no, .no, .no, .no, .no, .no]) (M1 := M') (by simp [hfive, q5]) ?_
    refine Post.then (e1 := [.fz (.obj n), .fz (.int (m : Nat)), .fz (iT told), x3, x4, .fz (.tup (Ls m)), .fz (.tup ((rows told m).map iT)), .no, .no, .no, .no, .no, .no, .no]) (M1 := M') (by simp [d_cases T hm]) ?_
    have hnum : F__law_number 20 [.int (m : Nat), .int (told.length : Nat), .int 0] M' = some ((.int (num m told.length 0 : Nat), false), M') := e_number 20 m told.length 0 (by omega) (by have := T.len; omega)
    have hsort : dSorted [.tup ((rows told m).map iT)] = some (.lst ((rows told m).map iT), true) := d_sort T m
    have hsame : dNe (.lst ((rows told m).map iT)) (.lst ((rows told m).map iT)) = some (.bl false, false) := dNe_same (pl_rows _) (depth_rows _)
    have hsameT : dNe (.tup ((rows told m).map iT)) (.tup ((rows told m).map iT)) = some (.bl false, false) := dNe_same (pl_rowsT _) (depth_rowsT _)
    refine Post.then (e1 := [.fz (.obj n), .fz (.int (m : Nat)), .fz (iT told), x3, x4, .fz (.tup (Ls m)), .fz (.tup ((rows told m).map iT)), .no, .no, .no, .no, .no, .no, .no]) (M1 := M') (by simp [hnum, d_len T, hsort, hsame]) ?_
    -- letters left out at the end
    refine Post.seq (Post.imp (Q := fun fl e M2 => fl = .nx ∧ M2 = M' ∧ ∃ x7 x8 : Sl, e = [.fz (.obj n), .fz (.int (m : Nat)), .fz (iT told), x3, x4, .fz (.tup (Ls m)), .fz (.tup ((rows told m).map iT)), x7, x8, .no, .no, .no, .no, .no]) ?_ ?_)
    · cases m with
      | zero => exact Post.of (fl := .nx) (M' := M') (e := [.fz (.obj n), .fz (.int (0 : Nat)), .fz (iT told), x3, x4, .fz (.tup (Ls 0)), .fz (.tup ((rows told 0).map iT)), .no, .no, .no, .no, .no, .no, .no]) (by simp) ⟨rfl, rfl, _, _, rfl⟩
      | succ m =>
        have e1 : ((m + 1 : Nat) : Int) - 1 = (m : Nat) := by omega
        have hlen : (rows told (m + 1)).length ≤ LIM := by
          rw [d_len T]
          have := num_le (m + 1) hm told.length (by have := T.len; omega)
          omega
        refine Post.ifT (M1 := M') (by simp) ?_
        have hcutL : cutD (Ls (m + 1)) none (some (m : Int)) = Ls m := by
          rw [Ls_cut]
          congr 1
          omega
        refine Post.then (e1 := [.fz (.obj n), .fz (.int ((m : Int) + 1)), .fz (iT told), x3, x4, .fz (.tup (Ls (m + 1))), .fz (.tup ((rows told (m + 1)).map iT)), .fz (.tup ((rows told m).map iT)), .no, .no, .no, .no, .no, .no]) (M1 := M') (by simp [hcutL, d_cases T (show m ≤ 5 by omega)]) ?_
        have hparts : compL [.fz (.obj n), .fz (.int ((m : Int) + 1)), .fz (iT told), x3, x4, .fz (.tup (Ls (m + 1))), .fz (.tup ((rows told (m + 1)).map iT)), .fz (.tup ((rows told m).map iT)), .no, .no, .no, .no, .no, .no] (.nm 9) eYes (eFz (eSl (eVar 9) eNoP (eSomeP (eFz (eOp dSub (eVar 1) (eCst (.int 1))))))) ((rows told (m + 1)).map iT) M' = some ((rows told (m + 1)).map fun x => iT (x.take m), M') := comp_to iT (fun x => iT (x.take m)) fun x _ => by
          have hc : cutD (List.map D.int x) none (some (m : Int)) = List.map D.int (x.take m) := by
            rw [cut_take, ← List.map_take]
          exact ⟨[.fz (.obj n), .fz (.int ((m : Int) + 1)), .fz (iT told), x3, x4, .fz (.tup (Ls (m + 1))), .fz (.tup ((rows told (m + 1)).map iT)), .fz (.tup ((rows told m).map iT)), .no, .fz (iT x), .no, .no, .no, .no], by simp, by simp [hc, -List.map_take]⟩
        have hPL : ((rows told (m + 1)).map fun x => iT (x.take m)) = ((rows told (m + 1)).map (List.take m)).map iT := by
          rw [List.map_map]
          rfl
        rw [hPL] at hparts
        refine Post.then (e1 := [.fz (.obj n), .fz (.int ((m : Int) + 1)), .fz (iT told), x3, x4, .fz (.tup (Ls (m + 1))), .fz (.tup ((rows told (m + 1)).map iT)), .fz (.tup ((rows told m).map iT)), .fz (.lst (((rows told (m + 1)).map (List.take m)).map iT)), .no, .no, .no, .no, .no]) (M1 := M') ?_ ?_
        · simp
          rw [hparts]
          simp [hlen]
        have hheads := parts_ok (M := M') T (m := m) (env := [.fz (.obj n), .fz (.int ((m : Int) + 1)), .fz (iT told), x3, x4, .fz (.tup (Ls (m + 1))), .fz (.tup ((rows told (m + 1)).map iT)), .fz (.tup ((rows told m).map iT)), .fz (.lst (((rows told (m + 1)).map (List.take m)).map iT)), .no, .no, .no, .no, .no]) (PL := (rows told (m + 1)).map (List.take m)) rfl (by simp) (by simp)
        have hpre : heads ((rows told (m + 1)).map (List.take m)) = rows told m := T.tl.prefixes m
        rw [hpre] at hheads
        have hlm : (rows told m).length ≤ LIM := by
          rw [d_len T]
          have := num_le m (by omega) told.length (by have := T.len; omega)
          omega
        have hsm : dSorted [.tup ((rows told m).map iT)] = some (.lst ((rows told m).map iT), true) := d_sort T m
        have hsm2 : dSorted [.lst ((rows told m).map iT)] = some (.lst ((rows told m).map iT), true) := d_sort T m
        have hsm3 : dNe (.lst ((rows told m).map iT)) (.lst ((rows told m).map iT)) = some (.bl false, false) := dNe_same (pl_rows _) (depth_rows _)
        refine Post.of (fl := .nx) (M' := M') (e := [.fz (.obj n), .fz (.int ((m : Int) + 1)), .fz (iT told), x3, x4, .fz (.tup (Ls (m + 1))), .fz (.tup ((rows told (m + 1)).map iT)), .fz (.tup ((rows told m).map iT)), .fz (.lst (((rows told (m + 1)).map (List.take m)).map iT)), .no, .no, .no, .no, .no]) ?_ ⟨rfl, rfl, _, _, rfl⟩
        simp only [v_sIf, v_tbB, v_eFz, v_eOp, v_eCall, v_eCons, v_eNil, v_eVar, v_eComp, v_iEnumD]
        simp [hsm, -List.map_map]
        rw [hheads]
        simp [hlm, hsm2, hsm3]
    intro fl e M2 ⟨hfl, hM2, x7, x8, he⟩
    subst hfl hM2 he
    dsimp only
    -- the least cells
    have hfr : compL [.fz (.obj n), .fz (.int (m : Nat)), .fz (iT told), x3, .no, .fz (.tup (Ls m)), .fz (.tup ((rows told m).map iT)), x7, x8, .no, .no, .no, .no, .no] (.nm 4) (tbB (eFz (eOp (dIn true) (eVar 4) (eVar 2)))) (eVar 4) (rints 0 10) M2 = some (dI (KM.fresh told), M2) := e_freshT (by decide) (by simp) rfl
    have hfl : (KM.fresh told).length ≤ LIM := by
      unfold KM.fresh
      exact Nat.le_trans (List.length_filter_le ..) q10
    refine Post.then (e1 := [.fz (.obj n), .fz (.int (m : Nat)), .fz (iT told), x3, x4, .fz (.tup (Ls m)), .fz (.tup ((rows told m).map iT)), x7, x8, .no, .no, .fz (iL (KM.fresh told)), .no, .no]) (M1 := M2) ?_ ?_
    · simp [show rng62 10 = true by decide]
      rw [hfr]
      simp [hfl]
    have hcan : ∀ k, k ∈ canon told ↔ k ∈ told := fun k => canon_mem
    -- each case's fresh cells
    refine Post.seq (Post.loop (fun r env M' => ∃ (R : List (List Int)) (y9 y10 y12 : Sl), (∀ x ∈ R, x ∈ rows told m) ∧ r = R.map iT ∧ env = [.fz (.obj n), .fz (.int (m : Nat)), .fz (iT told), x3, x4, .fz (.tup (Ls m)), .fz (.tup ((rows told m).map iT)), x7, x8, y9, y10, .fz (iL (KM.fresh told)), y12, .no] ∧ M' = M2)
      (ds := (rows told m).map iT) (M1 := M2) (by simp) ⟨rows told m, _, _, _, fun _ h => h, rfl, rfl, rfl⟩ (fun d r env M' ⟨R, y9, y10, y12, hR, hr, he, hM⟩ => ?_) (fun env M' ⟨R, y9, y10, y12, hR, hr, he, hM⟩ => ?_))
    · subst he hM
      cases R with
      | nil => cases hr
      | cons own R =>
        obtain ⟨rfl, rfl⟩ := List.cons.inj hr
        have hown := hR own (List.mem_cons_self ..)
        obtain ⟨s, hs, rfl⟩ := List.mem_map.mp hown
        obtain ⟨o1, o2, _⟩ := T.tl.order m s hs
        rw [firsts_congr hcan, fresh_congr hcan] at o1
        rw [fresh_congr hcan] at o2
        have hc : compL [.fz (.obj n), .fz (.int (m : Nat)), .fz (iT told), x3, .no, .fz (.tup (Ls m)), .fz (.tup ((rows told m).map iT)), x7, x8, .fz (iT s.1), .no, .fz (iL (KM.fresh told)), y12, .no] (.tp [.nm 10, .nm 4]) (eAnd (tbB (eFz (eOp (dIn true) (eVar 4) (eVar 2)))) (tbB (eFz (eOp (dIn true) (eVar 4) (eFz (eSl (eVar 9) eNoP (eSomeP (eVar 10)))))))) (eVar 4) (enumD (dI s.1)) M' = some (dI (firsts told s.1), M') := firsts_ok rfl rfl (by simp) (by simp)
        have hfl2 : (firsts told s.1).length = s.2 := by
          rw [o1, List.length_take, Nat.min_eq_left o2]
        have hfl3 : (firsts told s.1).length ≤ LIM := by omega
        have hcut : cutD (List.map D.int (KM.fresh told)) none (some (((firsts told s.1).length : Nat) : Int)) = List.map D.int (firsts told s.1) := by
          rw [cut_take, ← List.map_take, hfl2, o1]
        refine ⟨[.fz (.obj n), .fz (.int (m : Nat)), .fz (iT told), x3, x4, .fz (.tup (Ls m)), .fz (.tup ((rows told m).map iT)), x7, x8, .fz (iT s.1), y10, .fz (iL (KM.fresh told)), y12, .no], by simp, ?_⟩
        refine Post.then (e1 := [.fz (.obj n), .fz (.int (m : Nat)), .fz (iT told), x3, x4, .fz (.tup (Ls m)), .fz (.tup ((rows told m).map iT)), x7, x8, .fz (iT s.1), y10, .fz (iL (KM.fresh told)), .fz (iL (firsts told s.1)), .no]) (M1 := M') ?_ ?_
        · simp
          rw [hc]
          simp [hfl3]
        · exact Post.of (fl := .nx) (M' := M') (e := [.fz (.obj n), .fz (.int (m : Nat)), .fz (iT told), x3, x4, .fz (.tup (Ls m)), .fz (.tup ((rows told m).map iT)), x7, x8, .fz (iT s.1), y10, .fz (iL (KM.fresh told)), .fz (iL (firsts told s.1)), .no]) (by simp [hcut, w_neL]) ⟨R, _, _, _, fun x hx => hR x (List.mem_cons_of_mem _ hx), rfl, rfl, rfl⟩
    subst he hM
    have rows_eq : ∀ (ts : List Int), (∀ k, k ∈ ts ↔ k ∈ told) → rows ts m = rows told m := fun ts h => by
      unfold rows
      rw [canon_eq h]
    have hrev : F_cases [.tup (Ls m), .tup (List.map D.int told).reverse] M' = some ((.tup ((rows told m).map iT), false), M') := by
      have z := e_cases (M := M') hm (told := told.reverse) (by rw [List.length_reverse]; have := T.len; omega) (fun x hx => T.sub x (List.mem_reverse.mp hx))
      rw [rows_map, rows_eq _ fun k => List.mem_reverse] at z
      rw [← List.map_reverse]
      exact z
    have hdbl : F_cases [.tup (Ls m), .tup (List.map D.int told ++ List.map D.int told)] M' = some ((.tup ((rows told m).map iT), false), M') := by
      have z := e_cases (M := M') hm (told := told ++ told) (by rw [List.length_append]; have := T.len; omega) (fun x hx => by rcases List.mem_append.mp hx with h | h <;> exact T.sub x h)
      rw [rows_map, rows_eq _ fun k => by rw [List.mem_append, or_self]] at z
      rw [← List.map_append]
      exact z
    have hdd : dAdd (.tup (List.map D.int told)) (.tup (List.map D.int told)) = some (.tup (List.map D.int told ++ List.map D.int told), false) := w_addT (by rw [List.length_map]; have := T.len; omega)
    refine Post.then (e1 := [.fz (.obj n), .fz (.int (m : Nat)), .fz (iT told), x3, x4, .fz (.tup (Ls m)), .fz (.tup ((rows told m).map iT)), x7, x8, y9, y10, .fz (iL (KM.fresh told)), y12, .no]) (M1 := M') (by simp [hrev, hdd, hdbl, hsameT]) ?_
    -- one more told cell
    refine Post.then (e1 := [.fz (.obj n), .fz (.int (m : Nat)), .fz (iT told), x3, x4, .fz (.tup (Ls m)), .fz (.tup ((rows told m).map iT)), x7, x8, y9, y10, .fz (iL (KM.fresh told)), y12, .no]) (M1 := M') ?_ ?_
    · by_cases h4 : told.length < 4
      · have hf0 : 0 < (KM.fresh told).length := by
          have z := T.tl.len
          rw [canon_len T.nd, fresh_congr hcan] at z
          omega
        have hat : atI (List.map D.int (KM.fresh told)) 0 = some (.int (KM.fresh told)[0]) := by
          have z := atI_nat' (xs := List.map D.int (KM.fresh told)) (j := 0)
          rw [List.getElem?_map, List.getElem?_eq_getElem hf0] at z
          exact z
        have hmem := fresh_mem.mp (List.getElem_mem hf0)
        have ha : dAdd (.tup (List.map D.int told)) (.tup [.int (KM.fresh told)[0]]) = some (.tup (List.map D.int (told ++ [(KM.fresh told)[0]])), false) := by
          rw [List.map_append]
          exact w_addT (by rw [List.length_map]; have := T.len; show told.length + 1 ≤ LIM; omega)
        have hs : dSorted [.tup (List.map D.int (told ++ [(KM.fresh told)[0]]))] = some (iL ((told ++ [(KM.fresh told)[0]]).mergeSort leI), true) := w_sortT
        have T2 := T.with hmem.1 hmem.2 h4
        have T3 : Drawn ((told ++ [(KM.fresh told)[0]]).mergeSort leI) := by
          have p := List.mergeSort_perm (told ++ [(KM.fresh told)[0]]) leI
          exact ⟨p.nodup_iff.mpr T2.nd, fun x hx => T2.sub x (p.mem_iff.mp hx), by rw [p.length_eq]; exact T2.len⟩
        have hc := d_cases (M := M') T3 hm
        have hl3 : (rows ((told ++ [(KM.fresh told)[0]]).mergeSort leI) m).length = num m (told.length + 1) 0 := by
          rw [d_len T3, List.length_mergeSort, List.length_append]
          rfl
        have hmono := num_mono m hm told.length (by omega)
        have h4' : (told.length : Int) < 4 := by omega
        have hlt : ¬ ((num m (told.length + 1) 0 : Nat) : Int) < ((num m told.length 0 : Nat) : Int) := by omega
        simp [h4', hat, ha, hs, hc, hl3, d_len T, hlt, q1, -List.map_append]
      · have h4' : ¬ (told.length : Int) < 4 := by omega
        simp [h4']
    -- all cells told
    have hrt : (rints 0 (10 : Int).toNat) = dI ten := rfl
    have hev : F_cases [.tup (Ls (min 2 m)), .tup (rints 0 10)] M' = some ((.tup ((allC ten (min 2 m)).map fun s => iT s.1), false), M') := by
      have z := e_cases (M := M') (n := min 2 m) (by omega) (told := ten) (by decide) (fun x hx => hx)
      rw [canon_ten] at z
      exact z
    have hcutL : cutD (Ls m) none (some 2) = Ls (min 2 m) := Ls_cut m 2
    have hlev : ((allC ten (min 2 m)).map fun s => iT s.1).length = num (min 2 m) 10 0 := by
      rw [List.length_map]
      exact Told.count ⟨ten_inc, fun x hx => hx⟩ _
    have hrl : (rints 0 10).length = 10 := ints_len 0 10
    refine Post.then (e1 := [.fz (.obj n), .fz (.int (m : Nat)), .fz (iT told), x3, x4, .fz (.tup (Ls m)), .fz (.tup ((rows told m).map iT)), x7, x8, y9, y10, .fz (iL (KM.fresh told)), y12, .fz (.tup ((allC ten (min 2 m)).map fun s => iT s.1))]) (M1 := M') ?_ ?_
    · simp [hcutL, show rng62 10 = true by decide, hrl]
      rw [hev]
      simp
    have hnil : F_cases [.tup [], .tup (List.map D.int told)] M' = some ((.tup [.tup []], false), M') := by
      have z := e_cases (M := M') (n := 0) (by omega) (told := told) (by have := T.len; omega) T.sub
      exact z
    have hnn : dEq (.tup [.tup []]) (.tup [.tup []]) = some (.bl true, false) := dEq_same rfl (by decide)
    have hix : ∀ m ≤ 5, atI [D.int 1, D.int 10, D.int 100] (if (2 : Int) < ((m : Nat) : Int) then 2 else ((m : Nat) : Int)) = some (.int ((num (min 2 m) 10 0 : Nat) : Int)) := fun m hm => by
      match m, hm with
      | 0, _ => rfl
      | 1, _ => rfl
      | 2, _ => rfl
      | m + 3, _ =>
        rw [if_pos (by omega), Nat.min_eq_left (by omega)]
        rfl
    have hix := hix m hm
    rw [List.length_map] at hlev
    refine Post.of (fl := .rt (.bl true, false)) (M' := M') (e := [.fz (.obj n), .fz (.int (m : Nat)), .fz (iT told), x3, x4, .fz (.tup (Ls m)), .fz (.tup ((rows told m).map iT)), x7, x8, y9, y10, .fz (iL (KM.fresh told)), y12, .fz (.tup ((allC ten (min 2 m)).map fun s => iT s.1))]) ?_ ⟨rfl, hL⟩
    simp [hix, hlev, hnil, hnn, q0, q1, q3]
  obtain ⟨r, M', e, rfl, l⟩ := main
  exact ⟨M', e, l⟩
/-- the law's loop -/
theorem law_ok {script : List Int} (hl : script.length ≤ 63) : ∃ M', F_law [.scr (dI script)] [] = some ((.bl true, false), M') := by
  have main : ∃ r M', F_law [.scr (dI script)] [] = some (r, M') ∧ r = (.bl true, false) := by
    unfold F_law B_law
    simp only [v_sPre0, v_eFzOld]
    refine Post.fn ?_
    obtain ⟨k, hk, hk6⟩ : ∃ k : Nat, (if (if (6 : Int) < (script.length : Int) then 6 else (script.length : Int)) > 1 then (if (6 : Int) < (script.length : Int) then 6 else (script.length : Int)) else 1) = (k : Int) ∧ k ≤ 6 := by
      refine ⟨max 1 (min script.length 6), ?_, by omega⟩
      split <;> split <;> omega
    have hr : rng62 (k : Int) = true := decide_eq_true ⟨by omega, by omega⟩
    refine Post.seq (Post.loop (fun r env M' => ∃ (j : Nat) (x1 : Sl), r = (rints 0 k).drop j ∧ env = [.fz (.scr (dI script)), x1])
      (ds := rints 0 k) (M1 := []) (by simp only [v_iRng, v_eCons, v_eFz, v_eCall, v_eCst, v_eVar, v_eNil]; simp [hk, hr]) ⟨0, _, rfl, rfl⟩ (fun d r env M' ⟨j, x1, hr, he⟩ => ?_) (fun env M' ⟨j, x1, hr, he⟩ => ?_))
    · subst he
      have hj : (rints 0 k)[j]? = some d := by
        have z := congrArg List.head? hr
        rw [List.head?_drop] at z
        exact z.symm
      obtain ⟨hjk, rfl⟩ := ints_get hj
      have e0 : (0 : Int) + (j : Int) = (j : Int) := by omega
      rw [e0] at *
      obtain ⟨a, b, hd, ha, hb, hb2⟩ := dice (M := M') (script := script) (spot := j) (by omega)
      obtain ⟨M2, hc, _⟩ := law_case (M := M' ++ [.lst [.int a, .int b, .int 0]]) (n := M'.length) ⟨a, b, 0, by rw [List.getElem?_append_right (Nat.le_refl _), Nat.sub_self]; rfl, ha, hb, hb2, by omega, by omega⟩
      refine ⟨[.fz (.scr (dI script)), .fz (.int (j : Int))], by simp, ?_⟩
      refine Post.of (fl := .nx) (M' := M2) (e := [.fz (.scr (dI script)), .fz (.int (j : Int))]) (by simp [hd, hc]) ⟨j + 1, _, ?_, rfl⟩
      rw [← List.tail_drop, ← hr]
      rfl
    · subst he
      exact Post.of (fl := .rt (.bl true, false)) (M' := M') (e := [.fz (.scr (dI script)), x1]) (by simp) rfl
  obtain ⟨r, M', e, rfl⟩ := main
  exact ⟨M', e⟩
end LW

set_option Elab.async false
set_option linter.all false
set_option maxRecDepth 100000
set_option maxHeartbeats 8000000
namespace LW
open PySem PySem.Spec PyProof.Rows L2 R
theorem all_mk {l : PySem.W.OpenLaw} {w : World} {K : PySem.W.Frag} {h : Heap} {mg : Str → Option Value} {fa : Addr} (X : K.In h) (G : h.Ns mainGlobals mg) (hfa : mg "law" = some (.ref fa))
    {od0 an0 : Option Addr} {sl0 : Array (Option Value)} {oc0 kV0 dc0 pm0 cd0 ct0 : Value} {f0 : Addr}
    (a0 : PySem.W.nsIn K mainGlobals "demand" = some (some (.ref f0))) (l0 : K.lookup f0 = some ⟨oc0, od0, .func (PySem.W.fnOf "demand" "demand" (defArgs (topS 6)) (defBody (topS 6)) (defScope (topS 6)) .none kV0 dc0 pm0 an0 cd0 ct0), sl0⟩) (c0 : PySem.W.codeIn K cd0 "demand" = true) (k0 : PySem.W.keepIn K (.ref f0) = true)
    {od1 an1 : Option Addr} {sl1 : Array (Option Value)} {oc1 kV1 dc1 pm1 cd1 ct1 : Value} {f1 : Addr}
    (a1 : PySem.W.nsIn K mainGlobals "is_in" = some (some (.ref f1))) (l1 : K.lookup f1 = some ⟨oc1, od1, .func (PySem.W.fnOf "is_in" "is_in" (defArgs (topS 7)) (defBody (topS 7)) (defScope (topS 7)) .none kV1 dc1 pm1 an1 cd1 ct1), sl1⟩) (c1 : PySem.W.codeIn K cd1 "is_in" = true) (k1 : PySem.W.keepIn K (.ref f1) = true)
    {od2 an2 : Option Addr} {sl2 : Array (Option Value)} {oc2 kV2 dc2 pm2 cd2 ct2 : Value} {f2 : Addr}
    (a2 : PySem.W.nsIn K mainGlobals "is_tuple" = some (some (.ref f2))) (l2 : K.lookup f2 = some ⟨oc2, od2, .func (PySem.W.fnOf "is_tuple" "is_tuple" (defArgs (topS 8)) (defBody (topS 8)) (defScope (topS 8)) .none kV2 dc2 pm2 an2 cd2 ct2), sl2⟩) (c2 : PySem.W.codeIn K cd2 "is_tuple" = true) (k2 : PySem.W.keepIn K (.ref f2) = true)
    {od3 an3 : Option Addr} {sl3 : Array (Option Value)} {oc3 kV3 dc3 pm3 cd3 ct3 : Value} {f3 : Addr}
    (a3 : PySem.W.nsIn K mainGlobals "is_word" = some (some (.ref f3))) (l3 : K.lookup f3 = some ⟨oc3, od3, .func (PySem.W.fnOf "is_word" "is_word" (defArgs (topS 9)) (defBody (topS 9)) (defScope (topS 9)) .none kV3 dc3 pm3 an3 cd3 ct3), sl3⟩) (c3 : PySem.W.codeIn K cd3 "is_word" = true) (k3 : PySem.W.keepIn K (.ref f3) = true)
    {od4 an4 : Option Addr} {sl4 : Array (Option Value)} {oc4 kV4 dc4 pm4 cd4 ct4 : Value} {f4 : Addr}
    (a4 : PySem.W.nsIn K mainGlobals "is_letter" = some (some (.ref f4))) (l4 : K.lookup f4 = some ⟨oc4, od4, .func (PySem.W.fnOf "is_letter" "is_letter" (defArgs (topS 10)) (defBody (topS 10)) (defScope (topS 10)) .none kV4 dc4 pm4 an4 cd4 ct4), sl4⟩) (c4 : PySem.W.codeIn K cd4 "is_letter" = true) (k4 : PySem.W.keepIn K (.ref f4) = true)
    {od5 an5 : Option Addr} {sl5 : Array (Option Value)} {oc5 kV5 dc5 pm5 cd5 ct5 : Value} {f5 : Addr}
    (a5 : PySem.W.nsIn K mainGlobals "is_cell" = some (some (.ref f5))) (l5 : K.lookup f5 = some ⟨oc5, od5, .func (PySem.W.fnOf "is_cell" "is_cell" (defArgs (topS 11)) (defBody (topS 11)) (defScope (topS 11)) .none kV5 dc5 pm5 an5 cd5 ct5), sl5⟩) (c5 : PySem.W.codeIn K cd5 "is_cell" = true) (k5 : PySem.W.keepIn K (.ref f5) = true)
    {od6 an6 : Option Addr} {sl6 : Array (Option Value)} {oc6 kV6 dc6 pm6 cd6 ct6 : Value} {f6 : Addr}
    (a6 : PySem.W.nsIn K mainGlobals "all_cases" = some (some (.ref f6))) (l6 : K.lookup f6 = some ⟨oc6, od6, .func (PySem.W.fnOf "all_cases" "all_cases" (defArgs (topS 14)) (defBody (topS 14)) (defScope (topS 14)) .none kV6 dc6 pm6 an6 cd6 ct6), sl6⟩) (c6 : PySem.W.codeIn K cd6 "all_cases" = true) (k6 : PySem.W.keepIn K (.ref f6) = true)
    {od7 an7 : Option Addr} {sl7 : Array (Option Value)} {oc7 kV7 dc7 pm7 cd7 ct7 : Value} {f7 : Addr}
    (a7 : PySem.W.nsIn K mainGlobals "cases" = some (some (.ref f7))) (l7 : K.lookup f7 = some ⟨oc7, od7, .func (PySem.W.fnOf "cases" "cases" (defArgs (topS 15)) (defBody (topS 15)) (defScope (topS 15)) .none kV7 dc7 pm7 an7 cd7 ct7), sl7⟩) (c7 : PySem.W.codeIn K cd7 "cases" = true) (k7 : PySem.W.keepIn K (.ref f7) = true)
    {od8 an8 : Option Addr} {sl8 : Array (Option Value)} {oc8 kV8 dc8 pm8 cd8 ct8 : Value} {f8 : Addr}
    (a8 : PySem.W.nsIn K mainGlobals "_law_dice" = some (some (.ref f8))) (l8 : K.lookup f8 = some ⟨oc8, od8, .func (PySem.W.fnOf "_law_dice" "_law_dice" (defArgs (topS 17)) (defBody (topS 17)) (defScope (topS 17)) .none kV8 dc8 pm8 an8 cd8 ct8), sl8⟩) (c8 : PySem.W.codeIn K cd8 "_law_dice" = true) (k8 : PySem.W.keepIn K (.ref f8) = true)
    {od9 an9 : Option Addr} {sl9 : Array (Option Value)} {oc9 kV9 dc9 pm9 cd9 ct9 : Value} {f9 : Addr}
    (a9 : PySem.W.nsIn K mainGlobals "_law_roll" = some (some (.ref f9))) (l9 : K.lookup f9 = some ⟨oc9, od9, .func (PySem.W.fnOf "_law_roll" "_law_roll" (defArgs (topS 18)) (defBody (topS 18)) (defScope (topS 18)) .none kV9 dc9 pm9 an9 cd9 ct9), sl9⟩) (c9 : PySem.W.codeIn K cd9 "_law_roll" = true) (k9 : PySem.W.keepIn K (.ref f9) = true)
    {od10 an10 : Option Addr} {sl10 : Array (Option Value)} {oc10 kV10 dc10 pm10 cd10 ct10 : Value} {f10 : Addr}
    (a10 : PySem.W.nsIn K mainGlobals "_law_number" = some (some (.ref f10))) (l10 : K.lookup f10 = some ⟨oc10, od10, .func (PySem.W.fnOf "_law_number" "_law_number" (defArgs (topS 20)) (defBody (topS 20)) (defScope (topS 20)) .none kV10 dc10 pm10 an10 cd10 ct10), sl10⟩) (c10 : PySem.W.codeIn K cd10 "_law_number" = true) (k10 : PySem.W.keepIn K (.ref f10) = true)
    {od11 an11 : Option Addr} {sl11 : Array (Option Value)} {oc11 kV11 dc11 pm11 cd11 ct11 : Value} {f11 : Addr}
    (a11 : PySem.W.nsIn K mainGlobals "_law_case" = some (some (.ref f11))) (l11 : K.lookup f11 = some ⟨oc11, od11, .func (PySem.W.fnOf "_law_case" "_law_case" (defArgs (topS 21)) (defBody (topS 21)) (defScope (topS 21)) .none kV11 dc11 pm11 an11 cd11 ct11), sl11⟩) (c11 : PySem.W.codeIn K cd11 "_law_case" = true) (k11 : PySem.W.keepIn K (.ref f11) = true)
    {od12 an12 : Option Addr} {sl12 : Array (Option Value)} {oc12 kV12 dc12 pm12 cd12 ct12 : Value} {f12 : Addr}
    (a12 : PySem.W.nsIn K mainGlobals "law" = some (some (.ref f12))) (l12 : K.lookup f12 = some ⟨oc12, od12, .func (PySem.W.fnOf "law" "law" (defArgs (topS 22)) (defBody (topS 22)) (defScope (topS 22)) .none kV12 dc12 pm12 an12 cd12 ct12), sl12⟩) (c12 : PySem.W.codeIn K cd12 "law" = true) (k12 : PySem.W.keepIn K (.ref f12) = true)
    (z0 : PySem.W.nsIn K mainGlobals "len" = some none)
    (z1 : PySem.W.nsIn K mainGlobals "tuple" = some none)
    (z2 : PySem.W.nsIn K mainGlobals "list" = some none)
    (z3 : PySem.W.nsIn K mainGlobals "all" = some none)
    (z4 : PySem.W.nsIn K mainGlobals "any" = some none)
    (z5 : PySem.W.nsIn K mainGlobals "sum" = some none)
    (z6 : PySem.W.nsIn K mainGlobals "int" = some none)
    (z7 : PySem.W.nsIn K mainGlobals "abs" = some none)
    (z8 : PySem.W.nsIn K mainGlobals "max" = some none)
    (z9 : PySem.W.nsIn K mainGlobals "min" = some none)
    (z10 : PySem.W.nsIn K mainGlobals "isinstance" = some none)
    (z11 : PySem.W.nsIn K mainGlobals "sorted" = some none)
    (z12 : PySem.W.nsIn K mainGlobals "set" = some none)
    (z13 : PySem.W.nsIn K mainGlobals "dict" = some none)
    (z14 : PySem.W.nsIn K mainGlobals "range" = some none)
    (z15 : PySem.W.nsIn K mainGlobals "zip" = some none)
    (z16 : PySem.W.nsIn K mainGlobals "enumerate" = some none)
    (z17 : PySem.W.nsIn K mainGlobals "bool" = some none)
    (z18 : PySem.W.nsIn K mainGlobals "str" = some none)
    {t0 : Tok} (y0 : PySem.W.nsIn K mainGlobals "LETTERS" = some (some (.str "abcdefghijklmnopqrstuvwxyz" t0)))
    {t1 : Tok} (y1 : PySem.W.nsIn K mainGlobals "MOST_LETTERS" = some (some (.int 6 t1)))
    : ∃ fd : FuncData, (∀ (s : Shared) (v : Value), BindsTo s fd ⟨[v], []⟩ [("script", v)]) ∧ ∀ base : Heap, K.In base → base.Ns mainGlobals mg → FnOk l.prog w K mg base CX0 23 fa fd ["script"] (spTop K) := by
  have e := hfa.symm.trans (PySem.W.mg_of X G a12)
  cases e
  have bl : ∀ x ∈ bNames, mg x = none := fun x hx => by
    simp only [bNames, List.mem_cons, List.not_mem_nil, or_false] at hx
    rcases hx with rfl | rfl | rfl | rfl | rfl | rfl | rfl | rfl | rfl | rfl | rfl | rfl | rfl | rfl | rfl | rfl | rfl | rfl | rfl
    · exact PySem.W.mg_none_of X G z0
    · exact PySem.W.mg_none_of X G z1
    · exact PySem.W.mg_none_of X G z2
    · exact PySem.W.mg_none_of X G z3
    · exact PySem.W.mg_none_of X G z4
    · exact PySem.W.mg_none_of X G z5
    · exact PySem.W.mg_none_of X G z6
    · exact PySem.W.mg_none_of X G z7
    · exact PySem.W.mg_none_of X G z8
    · exact PySem.W.mg_none_of X G z9
    · exact PySem.W.mg_none_of X G z10
    · exact PySem.W.mg_none_of X G z11
    · exact PySem.W.mg_none_of X G z12
    · exact PySem.W.mg_none_of X G z13
    · exact PySem.W.mg_none_of X G z14
    · exact PySem.W.mg_none_of X G z15
    · exact PySem.W.mg_none_of X G z16
    · exact PySem.W.mg_none_of X G z17
    · exact PySem.W.mg_none_of X G z18
  have cs : ∀ x d, cst.lookup x = some d → HasC K mg x d := all_cons (hasC_str (PySem.W.mg_of X G y0) (by decide +kernel)) (all_cons (hasC_int (PySem.W.mg_of X G y1)) (all_nil))
  have F0 := fun_mk (st := topS 6) l0 c0 k0
  have b0 := F0.binds (ps := ["good", "name"]) fun _ _ _ _ _ _ us hl => match us, hl with | [_, _], _ => rfl
  have F1 := fun_mk (st := topS 7) l1 c1 k1
  have b1 := F1.binds (ps := ["value", "low", "high"]) fun _ _ _ _ _ _ us hl => match us, hl with | [_, _, _], _ => rfl
  have F2 := fun_mk (st := topS 8) l2 c2 k2
  have b2 := F2.binds (ps := ["value", "low", "high"]) fun _ _ _ _ _ _ us hl => match us, hl with | [_, _, _], _ => rfl
  have F3 := fun_mk (st := topS 9) l3 c3 k3
  have b3 := F3.binds (ps := ["value"]) fun _ _ _ _ _ _ us hl => match us, hl with | [_], _ => rfl
  have F4 := fun_mk (st := topS 10) l4 c4 k4
  have b4 := F4.binds (ps := ["value"]) fun _ _ _ _ _ _ us hl => match us, hl with | [_], _ => rfl
  have F5 := fun_mk (st := topS 11) l5 c5 k5
  have b5 := F5.binds (ps := ["value"]) fun _ _ _ _ _ _ us hl => match us, hl with | [_], _ => rfl
  have F6 := fun_mk (st := topS 14) l6 c6 k6
  have b6 := F6.binds (ps := ["letters", "told"]) fun _ _ _ _ _ _ us hl => match us, hl with | [_, _], _ => rfl
  have F7 := fun_mk (st := topS 15) l7 c7 k7
  have b7 := F7.binds (ps := ["letters", "told"]) fun _ _ _ _ _ _ us hl => match us, hl with | [_, _], _ => rfl
  have F8 := fun_mk (st := topS 17) l8 c8 k8
  have b8 := F8.binds (ps := ["script", "spot"]) fun _ _ _ _ _ _ us hl => match us, hl with | [_, _], _ => rfl
  have F9 := fun_mk (st := topS 18) l9 c9 k9
  have b9 := F9.binds (ps := ["dice", "total"]) fun _ _ _ _ _ _ us hl => match us, hl with | [_, _], _ => rfl
  have F10 := fun_mk (st := topS 20) l10 c10 k10
  have b10 := F10.binds (ps := ["letters", "told", "used"]) fun _ _ _ _ _ _ us hl => match us, hl with | [_, _, _], _ => rfl
  have F11 := fun_mk (st := topS 21) l11 c11 k11
  have b11 := F11.binds (ps := ["dice"]) fun _ _ _ _ _ _ us hl => match us, hl with | [_], _ => rfl
  have F12 := fun_mk (st := topS 22) l12 c12 k12
  have b12 := F12.binds (ps := ["script"]) fun _ _ _ _ _ _ us hl => match us, hl with | [_], _ => rfl
  refine ⟨PySem.W.fnOf "law" "law" (defArgs (topS 22)) (defBody (topS 22)) (defScope (topS 22)) .none kV12 dc12 pm12 an12 cd12 ct12, fun s v => .of_eq rfl, fun base _ _ => ?_⟩
  have H0 : HasF l.prog w K mg base 1 "demand" ⟨F_demand, 2, false⟩ := has_def (k := 0) F0 S_demand b0 (PySem.W.mg_of X G a0) (mods bl cs (all_nil)) C_demand
  have H1 : HasF l.prog w K mg base 1 "is_in" ⟨F_is_in, 3, false⟩ := has_def (k := 0) F1 S_is_in b1 (PySem.W.mg_of X G a1) (mods bl cs (all_nil)) C_is_in
  have H2 : HasF l.prog w K mg base 1 "is_tuple" ⟨F_is_tuple, 3, false⟩ := has_def (k := 0) F2 S_is_tuple b2 (PySem.W.mg_of X G a2) (mods bl cs (all_nil)) C_is_tuple
  have H3 : HasF l.prog w K mg base 1 "is_word" ⟨F_is_word, 1, false⟩ := has_def (k := 0) F3 S_is_word b3 (PySem.W.mg_of X G a3) (mods bl cs (all_nil)) C_is_word
  have H4 : HasF l.prog w K mg base 2 "is_letter" ⟨F_is_letter, 1, false⟩ := has_def (k := 1) F4 S_is_letter b4 (PySem.W.mg_of X G a4) (mods bl cs (all_cons (HasF.lv (H3.mono (by decide))) (all_nil))) C_is_letter
  have H5 : HasF l.prog w K mg base 2 "is_cell" ⟨F_is_cell, 1, false⟩ := has_def (k := 1) F5 S_is_cell b5 (PySem.W.mg_of X G a5) (mods bl cs (all_cons (HasF.lv (H1.mono (by decide))) (all_nil))) C_is_cell
  have H6 : HasF l.prog w K mg base 1 "all_cases" ⟨F_all_cases, 2, false⟩ := has_def (k := 0) F6 S_all_cases b6 (PySem.W.mg_of X G a6) (mods bl cs (all_nil)) C_all_cases
  have H7 : HasF l.prog w K mg base 3 "cases" ⟨F_cases, 2, false⟩ := has_def (k := 2) F7 S_cases b7 (PySem.W.mg_of X G a7) (mods bl cs (all_cons (HasF.lv (H0.mono (by decide))) (all_cons (HasF.lv (H6.mono (by decide))) (all_cons (HasF.lv (H2.mono (by decide))) (all_cons (HasF.lv (H4.mono (by decide))) (all_cons (HasF.lv (H5.mono (by decide))) (all_nil))))))) C_cases
  have H8 : HasF l.prog w K mg base 1 "_law_dice" ⟨F__law_dice, 2, false⟩ := has_def (k := 0) F8 S__law_dice b8 (PySem.W.mg_of X G a8) (mods bl cs (all_nil)) C__law_dice
  have H9 : HasF l.prog w K mg base 1 "_law_roll" ⟨F__law_roll, 2, false⟩ := has_def (k := 0) F9 S__law_roll b9 (PySem.W.mg_of X G a9) (mods bl cs (all_nil)) C__law_roll
  have H10 : ∀ j : Nat, HasF l.prog w K mg base (j + 1) "_law_number" ⟨F__law_number j, 3, false⟩ := fun j => by
    induction j with
    | zero => exact HasF.mono (k := 0 + 1) (has_none F10 S__law_number b10 (PySem.W.mg_of X G a10)) (by omega)
    | succ j ih =>
      exact (has_def (k := j + 1) F10 S__law_number b10 (PySem.W.mg_of X G a10) (mods bl cs (all_cons ih.lv (all_nil))) (C__law_number (F__law_number j)))
  have H10 := H10 20
  have H11 : HasF l.prog w K mg base 22 "_law_case" ⟨F__law_case, 1, false⟩ := has_def (k := 21) F11 S__law_case b11 (PySem.W.mg_of X G a11) (mods bl cs (all_cons (HasF.lv (H7.mono (by decide))) (all_cons (HasF.lv (H9.mono (by decide))) (all_cons (HasF.lv (H10.mono (by decide))) (all_nil))))) C__law_case
  have H12 : HasF l.prog w K mg base 23 "law" ⟨F_law, 1, false⟩ := has_def (k := 22) F12 S_law b12 (PySem.W.mg_of X G a12) (mods bl cs (all_cons (HasF.lv (H11.mono (by decide))) (all_cons (HasF.lv (H8.mono (by decide))) (all_nil)))) C_law
  have FL := def_ok F12 S_law (mods (k := 22) (base := base) (w := w) (P := l.prog) bl cs (all_cons (HasF.lv (H11.mono (by decide))) (all_cons (HasF.lv (H8.mono (by decide))) (all_nil)))) C_law
  exact top_ok FL fun ns hl => LW.law_ok hl
end LW
open PySem PySem.W PyProof.Rows
set_option maxHeartbeats 0 in
theorem PySem.Challenge.cw_checksenough_k43_whole_numbers_of_cases_holds : PySem.Challenge.rw_checksenough_k43_whole_numbers_of_cases.Holds := by
  w_on; o_law; k_head; (case hw => w_witness2)
  k_fill
  refine L2.walk_of (l := PySem.Challenge.rw_checksenough_k43_whole_numbers_of_cases) (n := 63) (k := 23) (x := "script") (CX := fun _ => L2.CX0) (sp := fun w => R.spTop _) rfl (by decide) rfl ⟨rfl, by decide, by decide⟩ (fun w h Y => PySem.W.kIn_of Y) ?F (fun _ _ a ns hl _ hS => ⟨a, ns, rfl, hS, hl, fun _ => rfl⟩) (fun _ _ _ _ _ h => h)
  case F =>
    intro w mg fa h KX G hmg
    refine' LW.all_mk KX G hmg ?a0 ?l0 ?c0 ?k0 ?a1 ?l1 ?c1 ?k1 ?a2 ?l2 ?c2 ?k2 ?a3 ?l3 ?c3 ?k3 ?a4 ?l4 ?c4 ?k4 ?a5 ?l5 ?c5 ?k5 ?a6 ?l6 ?c6 ?k6 ?a7 ?l7 ?c7 ?k7 ?a8 ?l8 ?c8 ?k8 ?a9 ?l9 ?c9 ?k9 ?a10 ?l10 ?c10 ?k10 ?a11 ?l11 ?c11 ?k11 ?a12 ?l12 ?c12 ?k12 ?z0 ?z1 ?z2 ?z3 ?z4 ?z5 ?z6 ?z7 ?z8 ?z9 ?z10 ?z11 ?z12 ?z13 ?z14 ?z15 ?z16 ?z17 ?z18 ?y0 ?y1
    (case a0 => k_is); (case l0 => k_is); (case c0 => k_is); (case k0 => k_is); (case a1 => k_is); (case l1 => k_is); (case c1 => k_is); (case k1 => k_is); (case a2 => k_is); (case l2 => k_is); (case c2 => k_is); (case k2 => k_is); (case a3 => k_is); (case l3 => k_is); (case c3 => k_is); (case k3 => k_is); (case a4 => k_is); (case l4 => k_is); (case c4 => k_is); (case k4 => k_is); (case a5 => k_is); (case l5 => k_is); (case c5 => k_is); (case k5 => k_is); (case a6 => k_is); (case l6 => k_is); (case c6 => k_is); (case k6 => k_is); (case a7 => k_is); (case l7 => k_is); (case c7 => k_is); (case k7 => k_is); (case a8 => k_is); (case l8 => k_is); (case c8 => k_is); (case k8 => k_is); (case a9 => k_is); (case l9 => k_is); (case c9 => k_is); (case k9 => k_is); (case a10 => k_is); (case l10 => k_is); (case c10 => k_is); (case k10 => k_is); (case a11 => k_is); (case l11 => k_is); (case c11 => k_is); (case k11 => k_is); (case a12 => k_is); (case l12 => k_is); (case c12 => k_is); (case k12 => k_is); (case z0 => k_is); (case z1 => k_is); (case z2 => k_is); (case z3 => k_is); (case z4 => k_is); (case z5 => k_is); (case z6 => k_is); (case z7 => k_is); (case z8 => k_is); (case z9 => k_is); (case z10 => k_is); (case z11 => k_is); (case z12 => k_is); (case z13 => k_is); (case z14 => k_is); (case z15 => k_is); (case z16 => k_is); (case z17 => k_is); (case z18 => k_is); (case y0 => k_is); (case y1 => k_is)
