import PyProof.Rows.All
import Wide.All
import OpenK.AllK
import Wide.FinOn
import HandS.ForMost
import HandS.Wide
import HandS.Star
import HandS.IsInst
import HandS.Conv
import HandS.Flow
import HandS.TupAny
import HandS.TupSets
import HandS.TupLe
import HandS.Style
import HandS.More
import PySem.Challenge.RW_selfdrawn_k02_whole_motions_one_behind_a
set_option Elab.async false
set_option linter.all false
set_option maxRecDepth 100000
set_option maxHeartbeats 4000000
/-! The pure layer: values as data, own lists and dicts of the frame, over the hand layer's rules. -/
namespace PL
open PySem L2

/-! ### data -/
inductive D where
  | non | bl (b : Bool) | int (i : Int) | str (x : Str) | ty (n : String) | ref (a : Addr) | pot
  | tup (xs : List D) | lst (xs : List D)

/-- what is laid down for good (F), and the pots (P), which draws alone change -/
structure Wd where
  F : Hp
  P : Addr → Prop

/-- a list that can be read: of the heap, or of the top's own text -/
def LsA (K : PySem.W.Frag) (H : Hp) (a : Addr) (xs : List V) : Prop :=
  Rd H a (.lst xs) ∨ ∃ (its : Array Value) (n : Nat), K.lookup a = some { cls := .type "list", data := .seq its n } ∧ its.size ≤ sizeLine ∧ Vals xs its.toList
theorem LsA.sql {K : PySem.W.Frag} {H : Hp} {a : Addr} {xs : List V} (h : LsA K H a xs) : SqL K H a xs := h.imp id fun ⟨its, n, l, z, v⟩ => ⟨_, its, n, l, rfl, rfl, rfl, z, v⟩
mutual
inductive DR (K : PySem.W.Frag) (W : Wd) : V → D → Prop where
  | non : DR K W .non .non
  | bl (b : Bool) : DR K W (.bl b) (.bl b)
  | int (i : Int) : DR K W (.int i) (.int i)
  | str (x : Str) : DR K W (.str x) (.str x)
  | ty (n : String) : DR K W (.ty n) (.ty n)
  | ref (a : Addr) : DR K W (.ref a) (.ref a)
  | pot (a : Addr) : W.P a → DR K W (.ref a) .pot
  | tup {a : Addr} {vs : List V} {ds : List D} : SqT K W.F a vs → DRs K W vs ds → DR K W (.ref a) (.tup ds)
  | lst {a : Addr} {vs : List V} {ds : List D} : LsA K W.F a vs → DRs K W vs ds → DR K W (.ref a) (.lst ds)
inductive DRs (K : PySem.W.Frag) (W : Wd) : List V → List D → Prop where
  | nil : DRs K W [] []
  | cons {v : V} {vs : List V} {d : D} {ds : List D} : DR K W v d → DRs K W vs ds → DRs K W (v :: vs) (d :: ds)
end

def Wle (W W' : Wd) : Prop := (∀ a o, W.F a = some o → W'.F a = some o) ∧ ∀ p, W.P p → W'.P p
theorem Wle.refl (W : Wd) : Wle W W := ⟨fun _ _ h => h, fun _ h => h⟩
theorem Wle.trans {A B C : Wd} (x : Wle A B) (y : Wle B C) : Wle A C := ⟨fun a o h => y.1 a o (x.1 a o h), fun p h => y.2 p (x.2 p h)⟩

theorem sqt_mono {K : PySem.W.Frag} {H H' : Hp} {a : Addr} {xs : List V} (e : ∀ a o, H a = some o → H' a = some o) (h : SqT K H a xs) : SqT K H' a xs := by
  rcases h with (h | ⟨o, h⟩) | h
  · exact .inl (.inl (e _ _ h))
  · exact .inl (.inr ⟨o, e _ _ h⟩)
  · exact .inr h
theorem sql_mono {K : PySem.W.Frag} {H H' : Hp} {a : Addr} {xs : List V} (e : ∀ a o, H a = some o → H' a = some o) (h : LsA K H a xs) : LsA K H' a xs := by
  rcases h with (h | ⟨o, h⟩) | h
  · exact .inl (.inl (e _ _ h))
  · exact .inl (.inr ⟨o, e _ _ h⟩)
  · exact .inr h

mutual
theorem DR.mono {K : PySem.W.Frag} {W W' : Wd} (w : Wle W W') : ∀ {v : V} {d : D}, DR K W v d → DR K W' v d
  | _, _, .non => .non
  | _, _, .bl b => .bl b
  | _, _, .int i => .int i
  | _, _, .str x => .str x
  | _, _, .ty n => .ty n
  | _, _, .ref a => .ref a
  | _, _, .pot a h => .pot a (w.2 a h)
  | _, _, .tup h r => .tup (sqt_mono w.1 h) (DRs.mono w r)
  | _, _, .lst h r => .lst (sql_mono w.1 h) (DRs.mono w r)
theorem DRs.mono {K : PySem.W.Frag} {W W' : Wd} (w : Wle W W') : ∀ {vs : List V} {ds : List D}, DRs K W vs ds → DRs K W' vs ds
  | _, _, .nil => .nil
  | _, _, .cons h r => .cons (DR.mono w h) (DRs.mono w r)
end
theorem DRs.length {K : PySem.W.Frag} {W : Wd} : ∀ {vs : List V} {ds : List D}, DRs K W vs ds → vs.length = ds.length
  | _, _, .nil => rfl
  | _, _, .cons _ r => by rw [List.length_cons, List.length_cons, DRs.length r]
theorem DRs.get {K : PySem.W.Frag} {W : Wd} : ∀ {vs : List V} {ds : List D} (i : Nat) {d : D}, DRs K W vs ds → ds[i]? = some d → ∃ v, vs[i]? = some v ∧ DR K W v d
  | _, _, i, _, .nil, h => by simp at h
  | _, _, 0, _, .cons h _, e => by simp at e; subst e; exact ⟨_, rfl, h⟩
  | _, _, i + 1, d, .cons _ r, e => by
    obtain ⟨v, h1, h2⟩ := DRs.get i (d := d) r (by simpa using e)
    exact ⟨v, by simpa using h1, h2⟩
theorem DRs.getv {K : PySem.W.Frag} {W : Wd} : ∀ {vs : List V} {ds : List D} (i : Nat) {v : V}, DRs K W vs ds → vs[i]? = some v → ∃ d, ds[i]? = some d ∧ DR K W v d
  | _, _, i, _, .nil, h => by simp at h
  | _, _, 0, _, .cons h _, e => by simp at e; subst e; exact ⟨_, rfl, h⟩
  | _, _, i + 1, d, .cons _ r, e => by
    obtain ⟨v, h1, h2⟩ := DRs.getv i (v := d) r (by simpa using e)
    exact ⟨v, by simpa using h1, h2⟩
theorem DRs.append {K : PySem.W.Frag} {W : Wd} : ∀ {vs ws : List V} {ds es : List D}, DRs K W vs ds → DRs K W ws es → DRs K W (vs ++ ws) (ds ++ es)
  | _, _, _, _, .nil, s => s
  | _, _, _, _, .cons h r, s => .cons h (DRs.append r s)
theorem DRs.take {K : PySem.W.Frag} {W : Wd} : ∀ {vs : List V} {ds : List D} (n : Nat), DRs K W vs ds → DRs K W (vs.take n) (ds.take n)
  | _, _, 0, _ => .nil
  | _, _, _ + 1, .nil => .nil
  | _, _, n + 1, .cons h r => .cons h (DRs.take n r)
theorem DRs.drop {K : PySem.W.Frag} {W : Wd} : ∀ {vs : List V} {ds : List D} (n : Nat), DRs K W vs ds → DRs K W (vs.drop n) (ds.drop n)
  | _, _, 0, r => r
  | _, _, _ + 1, .nil => .nil
  | _, _, n + 1, .cons _ r => DRs.drop n r
theorem DRs.set {K : PySem.W.Frag} {W : Wd} {v : V} {d : D} (h : DR K W v d) : ∀ {vs : List V} {ds : List D} (i : Nat), DRs K W vs ds → DRs K W (vs.set i v) (ds.set i d)
  | _, _, _, .nil => .nil
  | _, _, 0, .cons _ r => .cons h r
  | _, _, i + 1, .cons g r => .cons g (DRs.set h i r)
theorem DRs.ints {K : PySem.W.Frag} {W : Wd} : ∀ ns : List Int, DRs K W (ns.map V.int) (ns.map D.int)
  | [] => .nil
  | n :: ns => .cons (.int n) (DRs.ints ns)
theorem DRs.of_ints {K : PySem.W.Frag} {W : Wd} : ∀ {vs : List V} {ns : List Int}, DRs K W vs (ns.map D.int) → vs = ns.map V.int
  | [], [], .nil => rfl
  | _ :: _, _ :: _, .cons (.int _) r => by rw [List.map_cons, DRs.of_ints r]

/-! ### slots -/
inductive S where
  | un | dat (d : D) | own (ds : List D) | ownd (kvs : List (Key × D))

def S.isOwn : S → Prop
  | .own _ => True
  | .ownd _ => True
  | _ => False
/-- a pair of keys and data -/
def KR (K : PySem.W.Frag) (W : Wd) : List (Key × V) → List (Key × D) → Prop := Paired fun p q => p.1 = q.1 ∧ DR K W p.2 q.2
theorem KR.mono {K : PySem.W.Frag} {W W' : Wd} (w : Wle W W') {ks : List (Key × V)} {kvs : List (Key × D)} (h : KR K W ks kvs) : KR K W' ks kvs := Paired.mapP h fun _ _ z => ⟨z.1, z.2.mono w⟩
/-- an own container of the frame at p -/
def CnAt (K : PySem.W.Frag) (W : Wd) (H : Hp) (p : Addr) : S → Prop
  | .own ds => ∃ vs, H p = some (.lst vs) ∧ DRs K W vs ds
  | .ownd kvs => ∃ ks, H p = some (.dK ks) ∧ KR K W ks kvs
  | _ => False
theorem CnAt.isOwn {K : PySem.W.Frag} {W : Wd} {H : Hp} {p : Addr} {s : S} (h : CnAt K W H p s) : s.isOwn := by
  cases s <;> first | exact trivial | exact h.elim
theorem CnAt.some {K : PySem.W.Frag} {W : Wd} {H : Hp} {p : Addr} {s : S} (h : CnAt K W H p s) : ∃ o, H p = some o := by
  cases s with
  | own ds => obtain ⟨vs, h, _⟩ := h; exact ⟨_, h⟩
  | ownd ds => obtain ⟨vs, h, _⟩ := h; exact ⟨_, h⟩
  | un => exact h.elim
  | dat d => exact h.elim
theorem CnAt.mono {K : PySem.W.Frag} {W W' : Wd} {H H' : Hp} {p : Addr} {s : S} (w : Wle W W') (e : H' p = H p) (h : CnAt K W H p s) : CnAt K W' H' p s := by
  cases s with
  | own ds => obtain ⟨vs, h, r⟩ := h; exact ⟨vs, e.trans h, r.mono w⟩
  | ownd ds => obtain ⟨vs, h, r⟩ := h; exact ⟨vs, e.trans h, r.mono w⟩
  | un => exact h.elim
  | dat d => exact h.elim
/-- outside of what is laid down -/
def Out (W : Wd) (p : Addr) : Prop := W.F p = none ∧ ¬ W.P p
def SlotOk (K : PySem.W.Frag) (W : Wd) (H : Hp) (o : Option (Option V)) : S → Prop
  | .un => True
  | .dat d => ∃ v, o = some (some v) ∧ DR K W v d
  | s => ∃ p, o = some (some (.ref p)) ∧ CnAt K W H p s ∧ Out W p
theorem SlotOk.of_own {K : PySem.W.Frag} {W : Wd} {H : Hp} {o : Option (Option V)} {s : S} (hs : s.isOwn) (h : SlotOk K W H o s) : ∃ p, o = some (some (.ref p)) ∧ CnAt K W H p s ∧ Out W p := by
  cases s <;> first | exact h | exact hs.elim
theorem SlotOk.mk_own {K : PySem.W.Frag} {W : Wd} {H : Hp} {o : Option (Option V)} {s : S} {p : Addr} (h1 : o = some (some (.ref p))) (h2 : CnAt K W H p s) (h3 : Out W p) : SlotOk K W H o s := by
  cases s <;> first | exact ⟨p, h1, h2, h3⟩ | exact h2.elim

/-- a pot: three numbers, the last one at most n -/
def PotAt (H : Hp) (p : Addr) (n : Nat) : Prop := ∃ a b c : Int, H p = some (.lst [.int a, .int b, .int c]) ∧ 0 ≤ a ∧ a < 2 ^ 1100 ∧ 0 ≤ b ∧ b < 2 ^ 62 ∧ 0 ≤ c ∧ c ≤ n
theorem PotAt.le {H : Hp} {p : Addr} {n m : Nat} (h : PotAt H p n) (l : n ≤ m) : PotAt H p m := by
  obtain ⟨a, b, c, h0, h1, h2, h3, h4, h5, h6⟩ := h
  exact ⟨a, b, c, h0, h1, h2, h3, h4, h5, by omega⟩
structure WOk (W : Wd) (H : Hp) (n : Nat) : Prop where
  frz : ∀ a o, W.F a = some o → H a = some o
  pot : ∀ p, W.P p → W.F p = none ∧ PotAt H p n
theorem WOk.le {W : Wd} {H : Hp} {n m : Nat} (h : WOk W H n) (l : n ≤ m) : WOk W H m := ⟨h.frz, fun p hp => ⟨(h.pot p hp).1, (h.pot p hp).2.le l⟩⟩
theorem WOk.out_of_none {W : Wd} {H : Hp} {n : Nat} (h : WOk W H n) {p : Addr} (e : H p = none) : Out W p := by
  refine ⟨?_, fun hp => ?_⟩
  · cases q : W.F p with
    | none => rfl
    | some o => rw [h.frz p o q] at e; cases e
  · obtain ⟨_, _, _, _, q, _⟩ := h.pot p hp
    rw [q] at e; cases e
/-- p is one of the frame's own containers -/
def Own (σ : L2.St) (ρ : List S) (p : Addr) : Prop := ∃ (i : Nat) (s : S), ρ[i]? = some s ∧ s.isOwn ∧ σ[i]? = some (some (.ref p))
structure Rel (K : PySem.W.Frag) (σ : L2.St) (ρ : List S) (n : Nat) (W : Wd) (H : Hp) : Prop where
  ok : WOk W H n
  sl : ∀ (i : Nat) (s : S), ρ[i]? = some s → SlotOk K W H σ[i]? s
  inj : ∀ (i j : Nat) (s t : S) (p : Addr), ρ[i]? = some s → ρ[j]? = some t → s.isOwn → t.isOwn → σ[i]? = some (some (.ref p)) → σ[j]? = some (some (.ref p)) → i = j
  len : ρ.length = σ.length
theorem Rel.own_out {K : PySem.W.Frag} {σ : L2.St} {ρ : List S} {n : Nat} {W : Wd} {H : Hp} (r : Rel K σ ρ n W H) {p : Addr} (h : Own σ ρ p) : Out W p ∧ ∃ o, H p = some o := by
  obtain ⟨i, s, h1, h2, h3⟩ := h
  obtain ⟨q, e, hc, ho⟩ := (r.sl i s h1).of_own h2
  rw [h3] at e; cases e
  exact ⟨ho, hc.some⟩
/-- how far things have gone -/
structure Go (σ : L2.St) (ρ : List S) (W : Wd) (H : Hp) (σ' : L2.St) (ρ' : List S) (W' : Wd) (H' : Hp) : Prop where
  le : Wle W W'
  fr : ∀ a o, H a = some o → Out W a → ¬ Own σ ρ a → H' a = some o ∧ Out W' a
  tr : ∀ a o, H a = some o → ∃ o', H' a = some o'
  ow : ∀ p, Own σ' ρ' p → Own σ ρ p ∨ H p = none
theorem Go.refl (σ : L2.St) (ρ : List S) (W : Wd) (H : Hp) : Go σ ρ W H σ ρ W H := ⟨Wle.refl W, fun _ _ h o _ => ⟨h, o⟩, fun _ o h => ⟨o, h⟩, fun _ h => .inl h⟩
theorem Go.trans {σ σ1 σ2 : L2.St} {ρ ρ1 ρ2 : List S} {W W1 W2 : Wd} {H H1 H2 : Hp} (a : Go σ ρ W H σ1 ρ1 W1 H1) (b : Go σ1 ρ1 W1 H1 σ2 ρ2 W2 H2) : Go σ ρ W H σ2 ρ2 W2 H2 where
  le := a.le.trans b.le
  fr := fun x o h ho hn => by
    obtain ⟨h1, o1⟩ := a.fr x o h ho hn
    refine b.fr x o h1 o1 fun z => ?_
    rcases a.ow x z with z | z
    · exact hn z
    · rw [h] at z; cases z
  tr := fun x o h => by
    obtain ⟨o1, h1⟩ := a.tr x o h
    exact b.tr x o1 h1
  ow := fun p h => by
    rcases b.ow p h with h | h
    · exact a.ow p h
    · refine .inr ?_
      cases q : H p with
      | none => rfl
      | some o =>
        obtain ⟨o1, h1⟩ := a.tr p o q
        rw [h1] at h; cases h
theorem Go.free {σ σ1 : L2.St} {ρ ρ1 : List S} {W W1 : Wd} {H H1 : Hp} (a : Go σ ρ W H σ1 ρ1 W1 H1) {p : Addr} (h : H1 p = none) : H p = none := by
  cases q : H p with
  | none => rfl
  | some o =>
    obtain ⟨o1, h1⟩ := a.tr p o q
    rw [h1] at h; cases h

/-- a result: data, or a new container -/
def RS (K : PySem.W.Frag) (W : Wd) (H0 H : Hp) (v : V) : S → Prop
  | .un => False
  | .dat d => DR K W v d
  | s => ∃ p, v = .ref p ∧ CnAt K W H p s ∧ Out W p ∧ H0 p = none
theorem RS.of_own {K : PySem.W.Frag} {W : Wd} {H0 H : Hp} {v : V} {s : S} (hs : s.isOwn) (h : RS K W H0 H v s) : ∃ p, v = .ref p ∧ CnAt K W H p s ∧ Out W p ∧ H0 p = none := by
  cases s <;> first | exact h | exact hs.elim
theorem RS.mk_own {K : PySem.W.Frag} {W : Wd} {H0 H : Hp} {v : V} {s : S} {p : Addr} (h1 : v = .ref p) (h2 : CnAt K W H p s) (h3 : Out W p) (h4 : H0 p = none) : RS K W H0 H v s := by
  cases s <;> first | exact ⟨p, h1, h2, h3, h4⟩ | exact h2.elim
theorem RS.back {K : PySem.W.Frag} {W : Wd} {H0 H1 H : Hp} {v : V} {s : S} (b : ∀ p, H1 p = none → H0 p = none) (h : RS K W H1 H v s) : RS K W H0 H v s := by
  cases s with
  | un => exact h
  | dat d => exact h
  | own ds => obtain ⟨p, h1, h2, h3, h4⟩ := h; exact ⟨p, h1, h2, h3, b p h4⟩
  | ownd ds => obtain ⟨p, h1, h2, h3, h4⟩ := h; exact ⟨p, h1, h2, h3, b p h4⟩

/-! ### meanings -/
abbrev RK := S → List S → Nat → Prop
/-- an exception: its class's name, its value -/
abbrev XR := Str → D → Nat → Prop
abbrev M := List S → Nat → RK → XR → Prop
/-- what is wished of exceptions, by names of classes -/
structure Gx where
  K : PySem.W.Frag
  mg : Str → Option Value
  E : XK
/-- an exception lies there -/
def ExAt (G : Gx) (W : Wd) (H : Hp) (cn : Str) (d : D) (C dx : Addr) : Prop := ∃ v, G.mg cn = some (.ref C) ∧ H dx = some (.xd [("value", v)]) ∧ DR G.K W v d
/-- the wish from here on -/
def XL (G : Gx) (σ : L2.St) (ρ : List S) (W : Wd) (H : Hp) (RX : XR) : Prop := ∀ cn d n' C dx σ' ρ' W' H', RX cn d n' → WOk W' H' n' → Go σ ρ W H σ' ρ' W' H' → ExAt G W' H' cn d C dx → G.E (.ref C) (some dx) H'
theorem XL.go {G : Gx} {σ σ1 : L2.St} {ρ ρ1 : List S} {W W1 : Wd} {H H1 : Hp} {RX : XR} (x : XL G σ ρ W H RX) (g : Go σ ρ W H σ1 ρ1 W1 H1) : XL G σ1 ρ1 W1 H1 RX :=
  fun cn d n' C dx σ' ρ' W' H' h ok g' e => x cn d n' C dx σ' ρ' W' H' h ok (g.trans g') e
/-- an expression: no new own containers in the slots -/
structure GoE (σ : L2.St) (ρ : List S) (W : Wd) (H : Hp) (ρ' : List S) (W' : Wd) (H' : Hp) : Prop where
  go : Go σ ρ W H σ ρ' W' H'
  ns : ∀ p, Own σ ρ' p → Own σ ρ p
theorem GoE.refl (σ : L2.St) (ρ : List S) (W : Wd) (H : Hp) : GoE σ ρ W H ρ W H := ⟨Go.refl _ _ _ _, fun _ h => h⟩
theorem GoE.trans {σ : L2.St} {ρ ρ1 ρ2 : List S} {W W1 W2 : Wd} {H H1 H2 : Hp} (a : GoE σ ρ W H ρ1 W1 H1) (b : GoE σ ρ1 W1 H1 ρ2 W2 H2) : GoE σ ρ W H ρ2 W2 H2 := ⟨a.go.trans b.go, fun p h => a.ns p (b.ns p h)⟩
def RL (G : Gx) (σ : L2.St) (ρ : List S) (W : Wd) (H : Hp) (R : RK) (Q : VK) : Prop := ∀ s ρ' n' v H' W', R s ρ' n' → Rel G.K σ ρ' n' W' H' → GoE σ ρ W H ρ' W' H' → RS G.K W' H H' v s → Q v H'
/-- the reading of a meaning -/
def tOf (G : Gx) (m : M) : TE := fun σ H Q => ∃ ρ n W R RX, Rel G.K σ ρ n W H ∧ m ρ n R RX ∧ RL G σ ρ W H R Q ∧ XL G σ ρ W H RX
theorem pe_imp {X : Cx} {e : Expr} {t t' : TE} (h : PE X e t) (k : ∀ σ H Q, t' σ H Q → t σ H Q) : PE X e t' := ⟨fun pins s σ H Q I q => h.run pins s σ H Q I (k σ H Q q)⟩
theorem pt_imp {X : Cx} {e : Expr} {t t' : TT} (h : PT X e t) (k : ∀ σ H Q, t' σ H Q → t σ H Q) : PT X e t' := ⟨fun pins s σ H Q I q => h.run pins s σ H Q I (k σ H Q q)⟩
theorem pa_imp {X : Cx} {e : List Expr} {t t' : TA} (h : PA X e t) (k : ∀ σ H Q, t' σ H Q → t σ H Q) : PA X e t' := ⟨fun pos pins s σ H Q I q => h.run pos pins s σ H Q I (k σ H Q q)⟩
theorem ps_imp {X : Cx} {e : Stmt} {t t' : TS} (h : PS X e t) (k : ∀ D σ H, t' D σ H → t D σ H) : PS X e t' := ⟨fun pins s σ H D I q => h.run pins s σ H D I (k D σ H q)⟩
theorem pss_imp {X : Cx} {e : List Stmt} {t t' : TS} (h : PSs X e t) (k : ∀ D σ H, t' D σ H → t D σ H) : PSs X e t' := ⟨fun pins s σ H D I q => h.run pins s σ H D I (k D σ H q)⟩
/-- one after the other -/
theorem of_bind {G : Gx} {ma : M} {σ : L2.St} {H : Hp} {Q : VK} {ρ : List S} {n : Nat} {W : Wd} {RX : XR} {R1 : RK} (r : Rel G.K σ ρ n W H) (x : XL G σ ρ W H RX) (h : ma ρ n R1 RX)
    (k : ∀ s ρ1 n1 v H1 W1, R1 s ρ1 n1 → Rel G.K σ ρ1 n1 W1 H1 → GoE σ ρ W H ρ1 W1 H1 → RS G.K W1 H H1 v s → XL G σ ρ1 W1 H1 RX → Q v H1) : tOf G ma σ H Q :=
  ⟨ρ, n, W, R1, RX, r, h, fun s ρ1 n1 v H1 W1 h1 r1 g1 s1 => k s ρ1 n1 v H1 W1 h1 r1 g1 s1 (x.go g1.go), x⟩
theorem rl_same {G : Gx} {σ : L2.St} {ρ : List S} {n : Nat} {W : Wd} {H : Hp} {R : RK} {Q : VK} (r : Rel G.K σ ρ n W H) (l : RL G σ ρ W H R Q) {d : D} {v : V} (h : R (.dat d) ρ n) (hd : DR G.K W v d) : Q v H :=
  l (.dat d) ρ n v H W h r (GoE.refl _ _ _ _) hd
theorem RL.go {G : Gx} {σ : L2.St} {ρ ρ1 : List S} {W W1 : Wd} {H H1 : Hp} {R : RK} {Q : VK} (l : RL G σ ρ W H R Q) (g : GoE σ ρ W H ρ1 W1 H1) : RL G σ ρ1 W1 H1 R Q :=
  fun s ρ' n' v H' W' h r g' hs => l s ρ' n' v H' W' h r (g.trans g') (hs.back fun p => g.go.free)

/-! ### laying down: an own container, or a new one, becomes data -/
def putW (W : Wd) (p : Addr) (o : HO) : Wd := ⟨upd W.F p o, W.P⟩
theorem putW_le {W : Wd} {p : Addr} {o : HO} (h : Out W p) : Wle W (putW W p o) := ⟨fun a u e => by
  show upd W.F p o a = some u
  rw [upd_ne (ne_of_none e h.1)]; exact e, fun _ h => h⟩
theorem putW_out {W : Wd} {p a : Addr} {o : HO} (h : Out W a) (n : a ≠ p) : Out (putW W p o) a := ⟨by show upd W.F p o a = none; rw [upd_ne n]; exact h.1, h.2⟩
theorem putW_ok {W : Wd} {H : Hp} {n : Nat} {p : Addr} {o : HO} (ok : WOk W H n) (hp : Out W p) (h : H p = some o) : WOk (putW W p o) H n := by
  refine ⟨fun a u e => ?_, fun q hq => ?_⟩
  · by_cases z : a = p
    · subst z
      have e' : upd W.F a o a = some u := e
      rw [upd_same] at e'; cases e'; exact h
    · have e' : upd W.F p o a = some u := e
      rw [upd_ne z] at e'
      exact ok.frz a u e'
  · have z : q ≠ p := fun z => hp.2 (z ▸ hq)
    refine ⟨?_, (ok.pot q hq).2⟩
    show upd W.F p o q = none
    rw [upd_ne z]
    exact (ok.pot q hq).1
/-- slots stay as they are when an outer container is laid down -/
theorem rel_put {K : PySem.W.Frag} {σ : L2.St} {ρ : List S} {n : Nat} {W : Wd} {H : Hp} {p : Addr} {o : HO} (r : Rel K σ ρ n W H) (hp : Out W p) (h : H p = some o) (hn : ¬ Own σ ρ p) : Rel K σ ρ n (putW W p o) H := by
  refine ⟨putW_ok r.ok hp h, fun i s e => ?_, r.inj, r.len⟩
  have w := putW_le (o := o) hp
  have x := r.sl i s e
  cases s with
  | un => trivial
  | dat d => obtain ⟨v, h1, h2⟩ := x; exact ⟨v, h1, h2.mono w⟩
  | own ds =>
    obtain ⟨q, h1, h2, h3⟩ := x
    have nq : q ≠ p := fun z => hn ⟨i, _, e, trivial, z ▸ h1⟩
    exact ⟨q, h1, h2.mono w rfl, putW_out h3 nq⟩
  | ownd ds =>
    obtain ⟨q, h1, h2, h3⟩ := x
    have nq : q ≠ p := fun z => hn ⟨i, _, e, trivial, z ▸ h1⟩
    exact ⟨q, h1, h2.mono w rfl, putW_out h3 nq⟩
theorem go_put {σ : L2.St} {ρ : List S} {W : Wd} {H : Hp} {p : Addr} {o : HO} (hp : Out W p) : Wle W (putW W p o) ∧ ∀ a, Out W a → a ≠ p → Out (putW W p o) a := ⟨putW_le hp, fun _ ha n => putW_out ha n⟩

/-- a result as data: a new list is laid down -/
def toD : S → (D → Prop) → Prop
  | .dat d, k => k d
  | .own ds, k => k (.lst ds)
  | _, _ => False
/-- an expression's data, then what follows -/
theorem of_bindD {G : Gx} {ma : M} {σ : L2.St} {H : Hp} {Q : VK} {ρ : List S} {n : Nat} {W : Wd} {RX : XR} {R1 : D → List S → Nat → Prop} (r : Rel G.K σ ρ n W H) (x : XL G σ ρ W H RX) (h : ma ρ n (fun s ρ1 n1 => toD s fun d => R1 d ρ1 n1) RX)
    (k : ∀ d ρ1 n1 v H1 W1, R1 d ρ1 n1 → Rel G.K σ ρ1 n1 W1 H1 → GoE σ ρ W H ρ1 W1 H1 → DR G.K W1 v d → XL G σ ρ1 W1 H1 RX → Q v H1) : tOf G ma σ H Q := by
  refine of_bind r x h fun s ρ1 n1 v H1 W1 h1 r1 g1 s1 x1 => ?_
  cases s with
  | un => exact h1.elim
  | ownd kvs => exact h1.elim
  | dat d => exact k d ρ1 n1 v H1 W1 h1 r1 g1 s1 x1
  | own ds =>
    obtain ⟨p, rfl, ⟨vs, hp, hv⟩, ho, hn⟩ := s1
    have nown : ¬ Own σ ρ1 p := fun z => by
      obtain ⟨_, o, e⟩ := r.own_out (g1.ns p z)
      rw [hn] at e; cases e
    have w := putW_le (o := .lst vs) ho
    have r2 := rel_put r1 ho hp nown
    have g2 : GoE σ ρ1 W1 H1 ρ1 (putW W1 p (.lst vs)) H1 → True := fun _ => trivial
    have g3 : GoE σ ρ W H ρ1 (putW W1 p (.lst vs)) H1 := by
      refine ⟨⟨g1.go.le.trans w, fun a o ha hoa na => ?_, g1.go.tr, g1.go.ow⟩, g1.ns⟩
      obtain ⟨e1, e2⟩ := g1.go.fr a o ha hoa na
      exact ⟨e1, putW_out e2 fun z => by rw [z, hn] at ha; cases ha⟩
    refine k (.lst ds) ρ1 n1 (.ref p) H1 _ h1 r2 g3 (.lst (.inl (.inl ?_)) (hv.mono w)) ?_
    · show upd W1.F p (.lst vs) p = _
      rw [upd_same]
    · refine fun cn d n' C dx σ' ρ' W' H' hx ok' g' e => x cn d n' C dx σ' ρ' W' H' hx ok' (g3.go.trans g') e
end PL

set_option Elab.async false
set_option linter.all false
set_option maxRecDepth 100000
set_option maxHeartbeats 4000000
namespace PL
open PySem L2

/-- what the rules ask of a context -/
structure Ctx (X : Cx) (G : Gx) : Prop where
  K : X.K = G.K
  mg : X.mg = G.mg
  calm : X.calm = true
  un : X.A.units + 100 < cLine
  gd : X.A.guards = some []
  nd : X.N.Nodup

/-! ### names, constants -/
def mVar (i : Nat) : M := fun ρ n R _ => match ρ[i]? with
  | some (.dat d) => R (.dat d) ρ n
  | some (.own ds) => R (.dat (.lst ds)) (ρ.set i (.dat (.lst ds))) n
  | _ => False
theorem rel_freeze {K : PySem.W.Frag} {σ : L2.St} {ρ : List S} {n : Nat} {W : Wd} {H : Hp} {i : Nat} {ds : List D} {p : Addr} {vs : List V} (r : Rel K σ ρ n W H) (e1 : ρ[i]? = some (.own ds)) (e2 : σ[i]? = some (some (.ref p)))
    (hp : H p = some (.lst vs)) (hv : DRs K W vs ds) (ho : Out W p) : Rel K σ (ρ.set i (.dat (.lst ds))) n (putW W p (.lst vs)) H ∧ GoE σ ρ W H (ρ.set i (.dat (.lst ds))) (putW W p (.lst vs)) H ∧ DR K (putW W p (.lst vs)) (.ref p) (.lst ds) := by
  have w := putW_le (o := .lst vs) ho
  have hi : i < ρ.length := (List.getElem?_eq_some_iff.mp e1).1
  have dd : DR K (putW W p (.lst vs)) (.ref p) (.lst ds) := .lst (.inl (.inl (by show upd W.F p (.lst vs) p = _; rw [upd_same]))) (hv.mono w)
  have own' : ∀ q, Own σ (ρ.set i (.dat (.lst ds))) q → Own σ ρ q ∧ q ≠ p := fun q ⟨j, s, h1, h2, h3⟩ => by
    by_cases hj : i = j
    · subst hj
      rw [List.getElem?_set_self hi] at h1; cases h1; exact h2.elim
    · rw [List.getElem?_set_ne hj] at h1
      refine ⟨⟨j, s, h1, h2, h3⟩, fun z => hj ?_⟩
      subst z
      exact r.inj i j _ s q e1 h1 trivial h2 e2 h3
  refine ⟨⟨putW_ok r.ok ho hp, fun j s e => ?_, fun j k s t q h1 h2 h3 h4 h5 h6 => ?_, by rw [List.length_set]; exact r.len⟩, ⟨⟨w, fun a o ha hoa na => ⟨ha, putW_out hoa fun z => na ⟨i, _, e1, trivial, z ▸ e2⟩⟩, fun a o ha => ⟨o, ha⟩, fun q hq => .inl (own' q hq).1⟩, fun q hq => (own' q hq).1⟩, dd⟩
  · by_cases hj : i = j
    · subst hj
      rw [List.getElem?_set_self hi] at e; cases e
      exact ⟨_, e2, dd⟩
    · have e0 := e
      rw [List.getElem?_set_ne hj] at e
      have x := r.sl j s e
      cases s with
      | un => trivial
      | dat d => obtain ⟨v, h1, h2⟩ := x; exact ⟨v, h1, h2.mono w⟩
      | own es =>
        obtain ⟨q, h1, h2, h3⟩ := x
        exact ⟨q, h1, h2.mono w rfl, putW_out h3 (own' q ⟨j, _, e0, trivial, h1⟩).2⟩
      | ownd es =>
        obtain ⟨q, h1, h2, h3⟩ := x
        exact ⟨q, h1, h2.mono w rfl, putW_out h3 (own' q ⟨j, _, e0, trivial, h1⟩).2⟩
  · have c1 : i ≠ j := fun z => by subst z; rw [List.getElem?_set_self hi] at h1; cases h1; exact h3.elim
    have c2 : i ≠ k := fun z => by subst z; rw [List.getElem?_set_self hi] at h2; cases h2; exact h4.elim
    rw [List.getElem?_set_ne c1] at h1
    rw [List.getElem?_set_ne c2] at h2
    exact r.inj j k s t q h1 h2 h3 h4 h5 h6
theorem o_var {X : Cx} {G : Gx} {e : Expr} {i : Nat} (h : PE X e (tVar i)) : PE X e (tOf G (mVar i)) := pe_imp h fun σ H Q ⟨ρ, n, W, R, RX, r, hm, l, x⟩ => by
  unfold mVar at hm
  split at hm
  · rename_i d e1
    obtain ⟨v, h1, h2⟩ := r.sl i _ e1
    exact ⟨v, h1, rl_same r l hm h2⟩
  · rename_i ds e1
    obtain ⟨p, h1, ⟨vs, hp, hv⟩, ho⟩ := r.sl i _ e1
    obtain ⟨r2, g2, d2⟩ := rel_freeze r e1 h1 hp hv ho
    exact ⟨.ref p, h1, l _ _ _ _ _ _ hm r2 g2 d2⟩
  · exact hm.elim
def mC (d : D) : M := fun ρ n R _ => R (.dat d) ρ n
theorem o_c {X : Cx} {G : Gx} {e : Expr} {v : V} {d : D} (h : PE X e (tC v)) (hd : ∀ W, DR G.K W v d) : PE X e (tOf G (mC d)) := pe_imp h fun σ H Q ⟨ρ, n, W, R, RX, r, hm, l, x⟩ => rl_same r l hm (hd W)

/-! ### operations by values -/
/-- only new objects -/
structure Al (W : Wd) (H : Hp) (n : Nat) (W' : Wd) (H' : Hp) : Prop where
  ok : WOk W' H' n
  le : Wle W W'
  kp : ∀ a o, H a = some o → H' a = some o
  out : ∀ a o, H a = some o → Out W a → Out W' a
theorem Al.refl {W : Wd} {H : Hp} {n : Nat} (ok : WOk W H n) : Al W H n W H := ⟨ok, Wle.refl W, fun _ _ h => h, fun _ _ _ h => h⟩
theorem Al.tup {W : Wd} {H : Hp} {n : Nat} (ok : WOk W H n) {p : Addr} (hp : H p = none) (o : HO) : Al W H n (putW W p o) (upd H p o) := by
  have ho := ok.out_of_none hp
  have hne : ∀ a u, H a = some u → a ≠ p := fun a u h z => by rw [z, hp] at h; cases h
  refine ⟨putW_ok ⟨fun a u e => ?_, fun q hq => ⟨(ok.pot q hq).1, ?_⟩⟩ ho upd_same, putW_le ho, fun a u h => by rw [upd_ne (hne a u h)]; exact h, fun a u h hoa => putW_out hoa (hne a u h)⟩
  · have h := ok.frz a u e
    rw [upd_ne (hne a u h)]; exact h
  · obtain ⟨x, y, z, h, c⟩ := (ok.pot q hq).2
    exact ⟨x, y, z, by rw [upd_ne (hne q _ h)]; exact h, c⟩
theorem Al.lst {W : Wd} {H : Hp} {n : Nat} (ok : WOk W H n) {p : Addr} (hp : H p = none) (o : HO) : Al W H n W (upd H p o) := by
  have hne : ∀ a u, H a = some u → a ≠ p := fun a u h z => by rw [z, hp] at h; cases h
  refine ⟨⟨fun a u e => ?_, fun q hq => ⟨(ok.pot q hq).1, ?_⟩⟩, Wle.refl W, fun a u h => by rw [upd_ne (hne a u h)]; exact h, fun _ _ _ h => h⟩
  · have h := ok.frz a u e
    rw [upd_ne (hne a u h)]; exact h
  · obtain ⟨x, y, z, h, c⟩ := (ok.pot q hq).2
    exact ⟨x, y, z, by rw [upd_ne (hne q _ h)]; exact h, c⟩
def VPost (K : PySem.W.Frag) (W : Wd) (H : Hp) (n : Nat) (R : S → Prop) (Q : VK) : Prop := ∀ s v H' W', R s → Al W H n W' H' → RS K W' H H' v s → Q v H'
theorem rel_al {K : PySem.W.Frag} {σ : L2.St} {ρ : List S} {n : Nat} {W W' : Wd} {H H' : Hp} (r : Rel K σ ρ n W H) (a : Al W H n W' H') : Rel K σ ρ n W' H' ∧ GoE σ ρ W H ρ W' H' := by
  refine ⟨⟨a.ok, fun i s e => ?_, r.inj, r.len⟩, ⟨⟨a.le, fun x o h ho _ => ⟨a.kp x o h, a.out x o h ho⟩, fun x o h => ⟨o, a.kp x o h⟩, fun _ h => .inl h⟩, fun _ h => h⟩⟩
  have x := r.sl i s e
  cases s with
  | un => trivial
  | dat d => obtain ⟨v, h1, h2⟩ := x; exact ⟨v, h1, h2.mono a.le⟩
  | own ds =>
    obtain ⟨q, h1, h2, h3⟩ := x
    obtain ⟨o, ho⟩ := h2.some
    exact ⟨q, h1, h2.mono a.le ((a.kp q o ho).trans ho.symm), a.out q o ho h3⟩
  | ownd ds =>
    obtain ⟨q, h1, h2, h3⟩ := x
    obtain ⟨o, ho⟩ := h2.some
    exact ⟨q, h1, h2.mono a.le ((a.kp q o ho).trans ho.symm), a.out q o ho h3⟩
theorem vpost_of {G : Gx} {σ : L2.St} {ρ : List S} {n : Nat} {W : Wd} {H : Hp} {R : RK} {Q : VK} (r : Rel G.K σ ρ n W H) (l : RL G σ ρ W H R Q) : VPost G.K W H n (fun s => R s ρ n) Q :=
  fun s v H' W' h a hs => l s ρ n v H' W' h (rel_al r a).1 (rel_al r a).2 hs
theorem VPost.same {K : PySem.W.Frag} {W : Wd} {H : Hp} {n : Nat} {R : S → Prop} {Q : VK} (p : VPost K W H n R Q) (ok : WOk W H n) {v : V} {d : D} (h : R (.dat d)) (hd : DR K W v d) : Q v H := p _ v H W h (Al.refl ok) hd
theorem VPost.tup {K : PySem.W.Frag} {W : Wd} {H : Hp} {n : Nat} {R : S → Prop} {Q : VK} (p : VPost K W H n R Q) (ok : WOk W H n) {vs : List V} {ds : List D} (h : R (.dat (.tup ds))) (hd : DRs K W vs ds) {t : Addr} (ht : H t = none) : Q (.ref t) (upd H t (.tup vs)) :=
  p _ _ _ _ h (Al.tup ok ht (.tup vs)) (DR.tup (SqT.of (by show upd W.F t (.tup vs) t = _; rw [upd_same])) (hd.mono (putW_le (ok.out_of_none ht))))
theorem VPost.lst {K : PySem.W.Frag} {W : Wd} {H : Hp} {n : Nat} {R : S → Prop} {Q : VK} (p : VPost K W H n R Q) (ok : WOk W H n) {vs : List V} {ds : List D} (h : R (.own ds)) (hd : DRs K W vs ds) {t : Addr} (ht : H t = none) : Q (.ref t) (upd H t (.lst vs)) :=
  p _ _ _ _ h (Al.lst ok ht (.lst vs)) ⟨t, rfl, ⟨vs, upd_same, hd⟩, ok.out_of_none ht, ht⟩
theorem VPost.dict {K : PySem.W.Frag} {W : Wd} {H : Hp} {n : Nat} {R : S → Prop} {Q : VK} (p : VPost K W H n R Q) (ok : WOk W H n) (h : R (.ownd [])) {t : Addr} (ht : H t = none) : Q (.ref t) (upd H t (.dK [])) :=
  p _ _ _ _ h (Al.lst ok ht (.dK [])) ⟨t, rfl, ⟨[], upd_same, .nil⟩, ok.out_of_none ht, ht⟩

/-- a two-place operation over data -/
abbrev G2 := D → D → (S → Prop) → Prop
def OpD (X : Cx) (G : Gx) (f : Value → Value → Sem Value) (g : G2) : Prop := OpR X f fun x y H Q => ∃ a b W n R, WOk W H n ∧ DR G.K W x a ∧ DR G.K W y b ∧ g a b R ∧ VPost G.K W H n R Q
def mBin (g : G2) (ma mb : M) : M := fun ρ n R RX => ma ρ n (fun s ρ1 n1 => toD s fun a => mb ρ1 n1 (fun t ρ2 n2 => toD t fun b => g a b fun z => R z ρ2 n2) RX) RX
section
variable {X : Cx} {G : Gx} {a b c : Expr} {ma mb mc : M} {pos : Pos} {g g' : G2}
theorem bin_read {f : Value → Value → Sem Value} {σ : L2.St} {H : Hp} {Q : VK} (h : tOf G (mBin g ma mb) σ H Q) :
    tOp (fun x y H Q => ∃ a b W n R, WOk W H n ∧ DR G.K W x a ∧ DR G.K W y b ∧ g a b R ∧ VPost G.K W H n R Q) (tOf G ma) (tOf G mb) σ H Q := by
  obtain ⟨ρ, n, W, R, RX, r, h, l, x⟩ := h
  exact of_bindD r x h fun a ρ1 n1 v H1 W1 h1 r1 g1 d1 x1 => of_bindD r1 x1 h1 fun b ρ2 n2 u H2 W2 h2 r2 g2 d2 x2 =>
    ⟨a, b, W2, n2, _, r2.ok, d1.mono g2.go.le, d2, h2, vpost_of r2 (l.go (g1.trans g2))⟩
theorem o_bin {op : Operator} (ho : OpD X G (binaryOp op) g) (ha : PE X a (tOf G ma)) (hb : PE X b (tOf G mb)) : PE X (.BinOp a op b pos) (tOf G (mBin g ma mb)) := pe_imp (pe_op ho ha hb) fun _ _ _ h => bin_read (f := binaryOp op) h
theorem o_cmp {op : CmpOp} (ho : OpD X G (compareOp op) g) (ha : PE X a (tOf G ma)) (hb : PE X b (tOf G mb)) (hm : behindInMarks op b = false) : PE X (.Compare a [op] [b] pos) (tOf G (mBin g ma mb)) :=
  pe_imp (pe_cmpR ho ha hb hm) fun _ _ _ h => bin_read (f := compareOp op) h
theorem t_cmp {op : CmpOp} (ho : OpD X G (compareOp op) g) (ha : PE X a (tOf G ma)) (hb : PE X b (tOf G mb)) (hm : behindInMarks op b = false) : PT X (.Compare a [op] [b] pos) (tTest (tOf G (mBin g ma mb))) :=
  pt_imp (pt_cmpR ho ha hb hm) fun _ _ _ h => bin_read (f := compareOp op) h
/-- what is true or false goes on -/
def toB : S → (Bool → Prop) → Prop
  | .dat (.bl c), k => k c
  | _, _ => False
theorem toB_some {s : S} {k : Bool → Prop} (h : toB s k) : ∃ c, s = .dat (.bl c) ∧ k c := by
  unfold toB at h
  split at h
  · exact ⟨_, rfl, h⟩
  · exact h.elim
def wIf (c : Bool) (A B : Prop) : Prop := (c = true → A) ∧ (c = false → B)
theorem wIf.ite {c : Bool} {A B : Prop} (h : wIf c A B) : if c = true then A else B := by
  cases c with
  | true => rw [if_pos rfl]; exact h.1 rfl
  | false => rw [if_neg Bool.false_ne_true]; exact h.2 rfl
/-- a R b R' c -/
def mChain (g g' : G2) (ma mb mc : M) : M := fun ρ n R RX => ma ρ n (fun s ρ1 n1 => toD s fun a => mb ρ1 n1 (fun t ρ2 n2 => toD t fun b => g a b fun z => toB z fun k =>
  wIf k (mc ρ2 n2 (fun u ρ3 n3 => toD u fun c => g' b c fun y => R y ρ3 n3) RX) (R (.dat (.bl false)) ρ2 n2)) RX) RX
theorem chain_read {σ : L2.St} {H : Hp} {Q : VK} (h : tOf G (mChain g g' ma mb mc) σ H Q) :
    tChain (fun x y H Q => ∃ a b W n R, WOk W H n ∧ DR G.K W x a ∧ DR G.K W y b ∧ g a b R ∧ VPost G.K W H n R Q) (fun x y H Q => ∃ a b W n R, WOk W H n ∧ DR G.K W x a ∧ DR G.K W y b ∧ g' a b R ∧ VPost G.K W H n R Q) (tOf G ma) (tOf G mb) (tOf G mc) σ H Q := by
  obtain ⟨ρ, n, W, R, RX, r, h, l, x⟩ := h
  refine of_bindD r x h fun a ρ1 n1 v H1 W1 h1 r1 g1 d1 x1 => of_bindD r1 x1 h1 fun b ρ2 n2 u H2 W2 h2 r2 g2 d2 x2 => ?_
  refine ⟨a, b, W2, n2, _, r2.ok, d1.mono g2.go.le, d2, h2, fun s v3 H3 W3 hs al rs => ?_⟩
  obtain ⟨k, rfl, hk⟩ := toB_some hs
  obtain ⟨r3, g3⟩ := rel_al r2 al
  cases rs
  refine ⟨k, rfl, wIf.ite ⟨fun e => ?_, fun e => ?_⟩⟩
  · exact of_bindD r3 (x2.go g3.go) (hk.1 e) fun c ρ4 n4 w4 H4 W4 h4 r4 g4 d4 x4 => ⟨b, c, W4, n4, _, r4.ok, d2.mono (al.le.trans g4.go.le), d4, h4, vpost_of r4 (l.go (g1.trans (g2.trans (g3.trans g4))))⟩
  · exact l _ _ _ _ _ _ (hk.2 e) r3 (g1.trans (g2.trans g3)) (.bl false)
theorem o_chain {op op' : CmpOp} (ho : OpD X G (compareOp op) g) (ho' : OpD X G (compareOp op') g') (ha : PE X a (tOf G ma)) (hb : PE X b (tOf G mb)) (hc : PE X c (tOf G mc)) (hm : lastMarks [op, op'] [b, c] = false := by with_unfolding_all rfl) :
    PE X (.Compare a [op, op'] [b, c] pos) (tOf G (mChain g g' ma mb mc)) := pe_imp (pe_chain ho ho' ha hb hc hm) fun _ _ _ h => chain_read h
theorem t_chain {op op' : CmpOp} (ho : OpD X G (compareOp op) g) (ho' : OpD X G (compareOp op') g') (ha : PE X a (tOf G ma)) (hb : PE X b (tOf G mb)) (hc : PE X c (tOf G mc)) (hm : lastMarks [op, op'] [b, c] = false := by with_unfolding_all rfl) :
    PT X (.Compare a [op, op'] [b, c] pos) (tTest (tOf G (mChain g g' ma mb mc))) := pt_imp (pt_chain ho ho' ha hb hc hm) fun _ _ _ h => chain_read h
theorem t_val {e : Expr} {m : M} (h : PE X e (tOf G m)) (he : ∀ whole, isTrue e X.env whole = (do let v ← whole; standAt e.pos; holding [v] (truthy v)) := by intro _; rfl) : PT X e (tTest (tOf G m)) := pt_val h he
/-- a test, then what follows -/
theorem of_test {t : M} {σ : L2.St} {H : Hp} {Q : Bool → Hp → Prop} {ρ : List S} {n : Nat} {W : Wd} {RX : XR} {R1 : Bool → List S → Nat → Prop} (r : Rel G.K σ ρ n W H) (x : XL G σ ρ W H RX) (h : t ρ n (fun s ρ1 n1 => toB s fun c => R1 c ρ1 n1) RX)
    (k : ∀ c ρ1 n1 H1 W1, R1 c ρ1 n1 → Rel G.K σ ρ1 n1 W1 H1 → GoE σ ρ W H ρ1 W1 H1 → XL G σ ρ1 W1 H1 RX → Q c H1) : tTest (tOf G t) σ H Q :=
  of_bind r x h fun s ρ1 n1 v H1 W1 h1 r1 g1 s1 x1 => by
    obtain ⟨c, rfl, hc⟩ := toB_some h1
    cases s1
    exact ⟨c, rfl, k c ρ1 n1 H1 W1 hc r1 g1 x1⟩
/-! and, or, not, if -/
def mAnd (ma mb : M) : M := fun ρ n R RX => ma ρ n (fun s ρ1 n1 => toB s fun c => wIf c (mb ρ1 n1 R RX) (R (.dat (.bl false)) ρ1 n1)) RX
def mOr (ma mb : M) : M := fun ρ n R RX => ma ρ n (fun s ρ1 n1 => toB s fun c => wIf c (R (.dat (.bl true)) ρ1 n1) (mb ρ1 n1 R RX)) RX
def mNot (ma : M) : M := fun ρ n R RX => ma ρ n (fun s ρ1 n1 => toB s fun c => R (.dat (.bl (!c))) ρ1 n1) RX
def mIfE (mc ma mb : M) : M := fun ρ n R RX => mc ρ n (fun s ρ1 n1 => toB s fun c => wIf c (ma ρ1 n1 R RX) (mb ρ1 n1 R RX)) RX
theorem and_read {σ : L2.St} {H : Hp} {Q : Bool → Hp → Prop} (h : tTest (tOf G (mAnd ma mb)) σ H Q) : tAnd (tTest (tOf G ma)) (tTest (tOf G mb)) σ H Q := by
  obtain ⟨ρ, n, W, R, RX, r, h, l, x⟩ := h
  refine of_test r x h fun c ρ1 n1 H1 W1 h1 r1 g1 x1 => wIf.ite ⟨fun e => ?_, fun e => ?_⟩
  · exact ⟨ρ1, n1, W1, R, RX, r1, h1.1 e, l.go g1, x1⟩
  · obtain ⟨k, e1, q⟩ := l _ _ _ _ _ _ (h1.2 e) r1 g1 (DR.bl false)
    cases e1; exact q
theorem or_read {σ : L2.St} {H : Hp} {Q : Bool → Hp → Prop} (h : tTest (tOf G (mOr ma mb)) σ H Q) : tOr (tTest (tOf G ma)) (tTest (tOf G mb)) σ H Q := by
  obtain ⟨ρ, n, W, R, RX, r, h, l, x⟩ := h
  refine of_test r x h fun c ρ1 n1 H1 W1 h1 r1 g1 x1 => wIf.ite ⟨fun e => ?_, fun e => ?_⟩
  · obtain ⟨k, e1, q⟩ := l _ _ _ _ _ _ (h1.1 e) r1 g1 (DR.bl true)
    cases e1; exact q
  · exact ⟨ρ1, n1, W1, R, RX, r1, h1.2 e, l.go g1, x1⟩
theorem t_and1 (h : PT X a (tTest (tOf G ma))) : PW X (.BoolOp .And [a] pos) (tTest (tOf G ma)) := pw_and1 h
theorem t_or1 (h : PT X a (tTest (tOf G ma))) : PW X (.BoolOp .Or [a] pos) (tTest (tOf G ma)) := pw_or1 h
theorem pw_imp {X : Cx} {e : Expr} {t t' : TT} (h : PW X e t) (k : ∀ σ H Q, t' σ H Q → t σ H Q) : PW X e t' := ⟨fun wh pins s σ H Q I q => h.run wh pins s σ H Q I (k σ H Q q)⟩
theorem t_and {rest : List Expr} (h : PT X a (tTest (tOf G ma))) (hb : PW X (.BoolOp .And (b :: rest) pos) (tTest (tOf G mb))) : PW X (.BoolOp .And (a :: b :: rest) pos) (tTest (tOf G (mAnd ma mb))) := pw_imp (pw_and h hb) fun _ _ _ h => and_read h
theorem t_or {rest : List Expr} (h : PT X a (tTest (tOf G ma))) (hb : PW X (.BoolOp .Or (b :: rest) pos) (tTest (tOf G mb))) : PW X (.BoolOp .Or (a :: b :: rest) pos) (tTest (tOf G (mOr ma mb))) := pw_imp (pw_or h hb) fun _ _ _ h => or_read h
theorem t_not (h : PT X a (tTest (tOf G ma))) : PT X (.UnaryOp .Not a pos) (tTest (tOf G (mNot ma))) := pt_imp (pt_not h) fun σ H Q h => by
  obtain ⟨ρ, n, W, R, RX, r, h, l, x⟩ := h
  refine of_test r x h fun c ρ1 n1 H1 W1 h1 r1 g1 x1 => ?_
  obtain ⟨k, e1, q⟩ := l _ _ _ _ _ _ h1 r1 g1 (DR.bl (!c))
  cases e1; exact q
theorem o_ifE {ct : M} (hc : PT X c (tTest (tOf G ct))) (ha : PE X a (tOf G ma)) (hb : PE X b (tOf G mb)) : PE X (.IfExp c a b pos) (tOf G (mIfE ct ma mb)) := pe_imp (pe_ifExp hc ha hb) fun σ H Q h => by
  obtain ⟨ρ, n, W, R, RX, r, h, l, x⟩ := h
  refine of_test r x h fun c ρ1 n1 H1 W1 h1 r1 g1 x1 => wIf.ite ⟨fun e => ?_, fun e => ?_⟩
  · exact ⟨ρ1, n1, W1, R, RX, r1, h1.1 e, l.go g1, x1⟩
  · exact ⟨ρ1, n1, W1, R, RX, r1, h1.2 e, l.go g1, x1⟩
end
end PL

set_option Elab.async false
set_option linter.all false
set_option maxRecDepth 100000
set_option maxHeartbeats 4000000
namespace PL
open PySem L2

/-! ### data as the library's data -/
mutual
def D.py : D → PyData
  | .non => .none
  | .bl b => .bool b
  | .int i => .int i
  | .str x => .str x
  | .ty _ => .none
  | .ref _ => .none
  | .pot => .none
  | .tup xs => .tuple (D.pyAll xs)
  | .lst xs => .list (D.pyAll xs)
def D.pyAll : List D → List PyData
  | [] => []
  | x :: xs => D.py x :: D.pyAll xs
end
mutual
def D.plain : D → Bool
  | .ty _ => false
  | .ref _ => false
  | .pot => false
  | .tup xs => D.plainAll xs
  | .lst xs => D.plainAll xs
  | .non => true
  | .bl _ => true
  | .int _ => true
  | .str _ => true
def D.plainAll : List D → Bool
  | [] => true
  | x :: xs => D.plain x && D.plainAll xs
end
mutual
theorem DR.dp {K : PySem.W.Frag} {W : Wd} {H : Hp} (e : ∀ a o, W.F a = some o → H a = some o) : ∀ {v : V} {d : D}, DR K W v d → d.plain = true → Dp K H v d.py
  | _, _, .non, _ => .non
  | _, _, .bl b, _ => .bl b
  | _, _, .int i, _ => .int i
  | _, _, .str x, _ => .str x
  | _, _, .ty n, h => by cases h
  | _, _, .ref a, h => by cases h
  | _, _, .pot a _, h => by cases h
  | _, _, .tup h r, p => .tup (sqt_mono e h) (DRs.dp e r p)
  | _, _, .lst h r, p => .lst (sql_mono e h).sql (DRs.dp e r p)
theorem DRs.dp {K : PySem.W.Frag} {W : Wd} {H : Hp} (e : ∀ a o, W.F a = some o → H a = some o) : ∀ {vs : List V} {ds : List D}, DRs K W vs ds → D.plainAll ds = true → DpAll K H vs (D.pyAll ds)
  | _, _, .nil, _ => .nil
  | _, _, .cons h r, p => by
    have q := Bool.and_eq_true_iff.mp p
    exact .cons (DR.dp e h q.1) (DRs.dp e r q.2)
end

/-! ### operations on ints -/
section
variable {X : Cx} {G : Gx}
def gI (C : Int → Int → Prop) (g : Int → Int → D) : G2 := fun a b R => match a, b with
  | .int i, .int j => C i j ∧ R (.dat (g i j))
  | _, _ => False
theorem gI_some {C : Int → Int → Prop} {g : Int → Int → D} {a b : D} {R : S → Prop} (h : gI C g a b R) : ∃ i j, a = .int i ∧ b = .int j ∧ C i j ∧ R (.dat (g i j)) := by
  unfold gI at h
  split at h
  · exact ⟨_, _, rfl, rfl, h⟩
  · exact h.elim
theorem opd_I {f : Value → Value → Sem Value} {C : Int → Int → Prop} {gv : Int → Int → V} {g : Int → Int → D} (h : OpR X f (rI C gv)) (e : ∀ i j W, DR G.K W (gv i j) (g i j)) : OpD X G f (gI C g) := by
  intro pins s σ H x y v u Q I rx ry ⟨a, b, W, n, R, ok, ha, hb, hg, hp⟩
  obtain ⟨i, j, rfl, rfl, hc, hR⟩ := gI_some hg
  cases ha; cases hb
  exact h pins s σ H _ _ v u Q I rx ry ⟨i, j, rfl, rfl, hc, hp.same ok hR (e i j W)⟩
theorem opd_I0 {f : Value → Value → Sem Value} {gv : Int → Int → V} {g : Int → Int → D} (h : OpR X f (rI0 gv)) (e : ∀ i j W, DR G.K W (gv i j) (g i j)) : OpD X G f (gI (fun _ _ => True) g) := by
  intro pins s σ H x y v u Q I rx ry ⟨a, b, W, n, R, ok, ha, hb, hg, hp⟩
  obtain ⟨i, j, rfl, rfl, hc, hR⟩ := gI_some hg
  cases ha; cases hb
  exact h pins s σ H _ _ v u Q I rx ry ⟨i, j, rfl, rfl, hp.same ok hR (e i j W)⟩
def MulOk (i j : Int) : Prop := CMul i j ∨ CMulW i j
theorem MulOk.l {i j : Int} (h : -(2 ^ 64) < i) (h2 : i < 2 ^ 64) : MulOk i j := .inl (.inl ⟨h, h2⟩)
theorem MulOk.r {i j : Int} (h : -(2 ^ 64) < j) (h2 : j < 2 ^ 64) : MulOk i j := .inl (.inr ⟨h, h2⟩)
def gSub : G2 := gI (fun _ _ => True) fun i j => .int (i - j)
def gMul : G2 := gI MulOk fun i j => .int (i * j)
def gFdv : G2 := gI (fun _ j => 0 < j ∧ j.natAbs.log2 < 9000) fun i j => .int (i / j)
def gMod : G2 := gI (fun _ j => 0 < j) fun i j => .int (i % j)
def gPow : G2 := gI (fun i j => 0 ≤ j ∧ (Builtin.Int.intBits i : Int) * j ≤ 2 ^ 27) fun i j => .int (i ^ j.toNat)
theorem d_sub : OpD X G (binaryOp .Sub) gSub := opd_I0 op_sub fun _ _ _ => .int _
theorem d_mul : OpD X G (binaryOp .Mult) gMul := by
  refine opd_I (gv := fun i j => .int (i * j)) ?_ fun _ _ _ => .int _
  intro pins s σ H x y v u Q I rx ry ⟨i, j, e1, e2, hc, q⟩
  rcases hc with hc | hc
  · exact op_mul pins s σ H x y v u Q I rx ry ⟨i, j, e1, e2, hc, q⟩
  · exact op_mulW pins s σ H x y v u Q I rx ry ⟨i, j, e1, e2, hc, q⟩
theorem d_fdv : OpD X G (binaryOp .FloorDiv) gFdv := opd_I op_fdivW fun _ _ _ => .int _
theorem d_mod : OpD X G (binaryOp .Mod) gMod := opd_I op_mod fun _ _ _ => .int _
theorem d_pow : OpD X G (binaryOp .Pow) gPow := by
  refine opd_I (gv := fun i j => .int (i ^ j.toNat)) ?_ fun _ _ _ => .int _
  exact opI fun _ _ _ _ _ _ _ hc q => PyProof.Rows.pow_int hc.1 hc.2 q
def gLt : G2 := gI (fun _ _ => True) fun i j => .bl (decide (i < j))
def gLe : G2 := gI (fun _ _ => True) fun i j => .bl (decide (i ≤ j))
def gGt : G2 := gI (fun _ _ => True) fun i j => .bl (decide (j < i))
def gGe : G2 := gI (fun _ _ => True) fun i j => .bl (decide (j ≤ i))
theorem d_lt : OpD X G (compareOp .Lt) gLt := opd_I0 op_lt fun _ _ _ => .bl _
theorem d_le : OpD X G (compareOp .LtE) gLe := opd_I0 op_le fun _ _ _ => .bl _
theorem d_gt : OpD X G (compareOp .Gt) gGt := opd_I0 op_gt fun _ _ _ => .bl _
theorem d_ge : OpD X G (compareOp .GtE) gGe := opd_I0 op_ge fun _ _ _ => .bl _
/-- + : ints, texts, tuples, lists -/
def gAdd : G2 := fun a b R => match a, b with
  | .int i, .int j => R (.dat (.int (i + j)))
  | .str x, .str y => x.length + y.length ≤ 1000000 ∧ R (.dat (.str (x ++ y)))
  | .tup xs, .tup ys => xs.length + ys.length ≤ 1000000 ∧ R (.dat (.tup (xs ++ ys)))
  | .lst xs, .lst ys => xs.length + ys.length ≤ 1000000 ∧ R (.own (xs ++ ys))
  | _, _ => False
theorem DRs.nil_iff {K : PySem.W.Frag} {W : Wd} {vs : List V} {ds : List D} (h : DRs K W vs ds) : vs = [] ↔ ds = [] := by
  cases h <;> simp
theorem sq_line {n : Nat} (h : n ≤ 1000000) : n ≤ sizeLine := Nat.le_trans h (by decide)
theorem sqt_H {K : PySem.W.Frag} {W : Wd} {H : Hp} {n : Nat} (ok : WOk W H n) {a : Addr} {xs : List V} (h : SqT K W.F a xs) : SqT K H a xs := sqt_mono ok.frz h
theorem sql_H {K : PySem.W.Frag} {W : Wd} {H : Hp} {n : Nat} (ok : WOk W H n) {a : Addr} {xs : List V} (h : LsA K W.F a xs) : SqL K H a xs := (sql_mono ok.frz h).sql
theorem LsA.isl {K : PySem.W.Frag} {P : Program} {w : World} {H : Hp} {h : Heap} {a : Addr} {xs : List V} (q : LsA K H a xs) (kin : K.In h) (hok : HOk P w H h) : xs.length ≤ sizeLine ∧ ∃ (its : List Value) (n : Nat), Vals xs its ∧ h.get? a = some { cls := .type "list", data := .seq its.toArray n } := by
  rcases q with q | ⟨its, n, l, z, v⟩
  · obtain ⟨z, its, n, r, e⟩ := q.ok hok
    exact ⟨z, its, n, r, e⟩
  · refine ⟨by rw [v.length, Array.length_toList]; exact z, its.toList, n, v, kin a _ (by simpa using l)⟩
theorem d_add (c : Ctx X G) : OpD X G (binaryOp .Add) gAdd := by
  intro pins s σ H x y v u Q I rx ry ⟨a, b, W, n, R, ok, ha, hb, hg, hp⟩
  unfold gAdd at hg
  split at hg
  · cases ha; cases hb
    exact op_add pins s σ H _ _ v u Q I rx ry ⟨_, _, rfl, rfl, hp.same ok hg (.int _)⟩
  · cases ha; cases hb
    exact op_add_str pins s σ H _ _ v u Q I rx ry ⟨_, _, rfl, rfl, sq_line hg.1, hp.same ok hg.2 (.str _)⟩
  · obtain ⟨hl, hR⟩ := hg
    cases ha with
    | tup h1 r1 =>
      cases hb with
      | tup h2 r2 =>
        have q1 := sqt_H ok h1
        have q2 := sqt_H ok h2
        rw [← c.K] at q1 q2
        refine op_catA pins s σ H _ _ v u Q I rx ry ⟨_, _, _, _, rfl, rfl, q1, q2, ?_, fun e => ?_, fun _ e => ?_, fun _ _ p np => ?_⟩
        · rw [r1.length, r2.length]; exact sq_line hl
        · have e' := r1.nil_iff.mp e
          subst e'
          rw [List.nil_append] at hR
          exact hp.same ok hR (.tup h2 r2)
        · have e' := r2.nil_iff.mp e
          subst e'
          rw [List.append_nil] at hR
          exact hp.same ok hR (.tup h1 r1)
        · exact hp.tup ok hR (r1.append r2) np
  · obtain ⟨hl, hR⟩ := hg
    cases ha with
    | lst h1 r1 =>
      cases hb with
      | lst h2 r2 =>
        have q1 := sql_mono ok.frz h1
        have q2 := sql_mono ok.frz h2
        rw [← c.K] at q1 q2
        cases rx
        cases ry
        obtain ⟨z1, its1, n1, v1, e1⟩ := q1.isl I.kIn I.hok
        obtain ⟨z2, its2, n2, v2, e2⟩ := q2.isl I.kIn I.hok
        have y1 := v1.length
        have y2 := v2.length
        have y3 := r1.length
        have y4 := r2.length
        have y5 := sq_line hl
        refine PySem.P.add_list e1 e2 ?_ (by rw [List.size_toArray, List.size_toArray]; omega)
        have ea : its1.toArray ++ its2.toArray = (its1 ++ its2).toArray := by simp
        rw [ea]
        exact ⟨.ref _, _, I.lnew (t' := s.toks) (v1.append v2) (by rw [List.length_append]; omega), rfl, hp.lst ok hR (r1.append r2) I.fresh⟩
  · exact hg.elim
/-- == -/
def gEq (neg : Bool) : G2 := fun a b R => match a, b with
  | .int i, .int j => R (.dat (.bl (neg ^^ decide (i = j))))
  | .str i, .str j => R (.dat (.bl (neg ^^ decide (i = j))))
  | a, b => a.plain = true ∧ b.plain = true ∧ SeqAt.shaped a.py = true ∧ SeqAt.shaped b.py = true ∧ R (.dat (.bl (neg ^^ PyData.eqv a.py b.py)))
theorem Ctx.u64 {X : Cx} {G : Gx} (c : Ctx X G) : X.A.units + 64 < cLine := by have := c.un; omega
theorem d_eq (c : Ctx X G) : OpD X G (compareOp .Eq) (gEq false) := by
  intro pins s σ H x y v u Q I rx ry ⟨a, b, W, n, R, ok, ha, hb, hg, hp⟩
  unfold gEq at hg
  split at hg
  · cases ha; cases hb
    rw [Bool.false_xor] at hg
    exact op_eq pins s σ H _ _ v u Q I rx ry ⟨rfl, by
      have q := hp.same ok hg (.bl _)
      rename_i i j
      have e : decide (V.int i = V.int j) = decide (i = j) := by simp
      rw [e]; exact q⟩
  · cases ha; cases hb
    rw [Bool.false_xor] at hg
    exact op_eq pins s σ H _ _ v u Q I rx ry ⟨rfl, by
      have q := hp.same ok hg (.bl _)
      rename_i i j
      have e : decide (V.str i = V.str j) = decide (i = j) := by simp
      rw [e]; exact q⟩
  · obtain ⟨p1, p2, s1, s2, hR⟩ := hg
    rw [Bool.false_xor] at hR
    have d1 := ha.dp ok.frz p1
    have d2 := hb.dp ok.frz p2
    rw [← c.K] at d1 d2
    exact op_eqD c.u64 pins s σ H _ _ v u Q I rx ry ⟨_, _, d1, d2, s1, s2, hp.same ok hR (.bl _)⟩
theorem d_ne (c : Ctx X G) : OpD X G (compareOp .NotEq) (gEq true) := by
  intro pins s σ H x y v u Q I rx ry ⟨a, b, W, n, R, ok, ha, hb, hg, hp⟩
  unfold gEq at hg
  split at hg
  · cases ha; cases hb
    rw [Bool.true_xor] at hg
    exact op_ne pins s σ H _ _ v u Q I rx ry ⟨rfl, by
      have q := hp.same ok hg (.bl _)
      rename_i i j
      have e : decide (V.int i = V.int j) = decide (i = j) := by simp
      rw [e]; exact q⟩
  · cases ha; cases hb
    rw [Bool.true_xor] at hg
    exact op_ne pins s σ H _ _ v u Q I rx ry ⟨rfl, by
      have q := hp.same ok hg (.bl _)
      rename_i i j
      have e : decide (V.str i = V.str j) = decide (i = j) := by simp
      rw [e]; exact q⟩
  · obtain ⟨p1, p2, s1, s2, hR⟩ := hg
    rw [Bool.true_xor] at hR
    have d1 := ha.dp ok.frz p1
    have d2 := hb.dp ok.frz p2
    rw [← c.K] at d1 d2
    exact op_neD c.u64 pins s σ H _ _ v u Q I rx ry ⟨_, _, d1, d2, s1, s2, hp.same ok hR (.bl _)⟩
/-- bools -/
def gBl (g : Bool → Bool → Bool) : G2 := fun a b R => match a, b with
  | .bl i, .bl j => R (.dat (.bl (g i j)))
  | _, _ => False
/-- in, not in, over flat things -/
def flatD : D → Bool
  | .non => true
  | .bl _ => true
  | .int _ => true
  | .str _ => true
  | _ => false
def vOf : D → V
  | .bl b => .bl b
  | .int i => .int i
  | .str x => .str x
  | _ => .non
theorem DR.flat {K : PySem.W.Frag} {W : Wd} {v : V} {d : D} (h : DR K W v d) (f : flatD d = true) : v = vOf d ∧ flatV v = true := by
  cases h <;> first | exact ⟨rfl, rfl⟩ | cases f
theorem DRs.flat {K : PySem.W.Frag} {W : Wd} : ∀ {vs : List V} {ds : List D}, DRs K W vs ds → ds.all flatD = true → vs = ds.map vOf ∧ vs.all flatV = true
  | _, _, .nil, _ => ⟨rfl, rfl⟩
  | _, _, .cons h r, f => by
    rw [List.all_cons, Bool.and_eq_true] at f
    obtain ⟨e1, f1⟩ := h.flat f.1
    obtain ⟨e2, f2⟩ := DRs.flat r f.2
    exact ⟨by rw [List.map_cons, e1, e2], by rw [List.all_cons, f1, f2]; rfl⟩
def inD (a : D) (ds : List D) : Bool := inV (vOf a) (ds.map vOf)
def gIn (neg : Bool) : G2 := fun a b R => match b with
  | .tup ds => flatD a = true ∧ ds.all flatD = true ∧ R (.dat (.bl (neg ^^ inD a ds)))
  | .lst ds => flatD a = true ∧ ds.all flatD = true ∧ R (.dat (.bl (neg ^^ inD a ds)))
  | _ => False
theorem rin_xor {neg c : Bool} : (if neg then !c else c) = (neg ^^ c) := by cases neg <;> cases c <;> rfl
theorem d_inG (c : Ctx X G) {op : CmpOp} {neg : Bool} (ho : OpR X (compareOp op) (rIn X.K neg)) : OpD X G (compareOp op) (gIn neg) := by
  intro pins s σ H x y v u Q I rx ry ⟨a, b, W, n, R, ok, ha, hb, hg, hp⟩
  unfold gIn at hg
  split at hg
  · obtain ⟨f1, f2, hR⟩ := hg
    cases hb with
    | tup h2 r2 =>
      obtain ⟨e1, f1⟩ := ha.flat f1
      obtain ⟨e2, f2⟩ := r2.flat f2
      have q2 := sqt_H ok h2
      rw [← c.K] at q2
      refine ho pins s σ H _ _ v u Q I rx ry ⟨_, _, rfl, .inr q2, f1, f2, ?_⟩
      rw [rin_xor, e1, e2]
      exact hp.same ok hR (.bl _)
  · obtain ⟨f1, f2, hR⟩ := hg
    cases hb with
    | lst h2 r2 =>
      obtain ⟨e1, f1⟩ := ha.flat f1
      obtain ⟨e2, f2⟩ := r2.flat f2
      have q2 := sql_H ok h2
      rw [← c.K] at q2
      refine ho pins s σ H _ _ v u Q I rx ry ⟨_, _, rfl, .inl q2, f1, f2, ?_⟩
      rw [rin_xor, e1, e2]
      exact hp.same ok hR (.bl _)
  · exact hg.elim
theorem d_in (c : Ctx X G) : OpD X G (compareOp .In) (gIn false) := d_inG c op_in_seq
theorem d_notin (c : Ctx X G) : OpD X G (compareOp .NotIn) (gIn true) := d_inG c op_notIn_seq
/-- is None -/
def isNon : D → Bool
  | .non => true
  | _ => false
def gIsN (neg : Bool) : G2 := fun a b R => match b with
  | .non => R (.dat (.bl (neg ^^ isNon a)))
  | _ => False
theorem DR.isN {K : PySem.W.Frag} {W : Wd} {v : V} {d : D} (h : DR K W v d) : decide (v = .non) = isNon d := by
  cases h <;> simp [isNon]
theorem d_isN : OpD X G (compareOp .Is) (gIsN false) := by
  intro pins s σ H x y v u Q I rx ry ⟨a, b, W, n, R, ok, ha, hb, hg, hp⟩
  unfold gIsN at hg
  split at hg
  · cases hb
    rw [Bool.false_xor] at hg
    exact op_isN pins s σ H _ _ v u Q I rx ry ⟨rfl, by rw [ha.isN]; exact hp.same ok hg (.bl _)⟩
  · exact hg.elim
theorem d_notN : OpD X G (compareOp .IsNot) (gIsN true) := by
  intro pins s σ H x y v u Q I rx ry ⟨a, b, W, n, R, ok, ha, hb, hg, hp⟩
  unfold gIsN at hg
  split at hg
  · cases hb
    rw [Bool.true_xor] at hg
    exact op_notN pins s σ H _ _ v u Q I rx ry ⟨rfl, by rw [ha.isN]; exact hp.same ok hg (.bl _)⟩
  · exact hg.elim
/-! one-place operations -/
abbrev G1 := D → (S → Prop) → Prop
def mUn (g : G1) (ma : M) : M := fun ρ n R RX => ma ρ n (fun s ρ1 n1 => toD s fun a => g a fun z => R z ρ1 n1) RX
def UnD (X : Cx) (G : Gx) (f : Value → Sem Value) (g : G1) : Prop := UnR X f fun x H Q => ∃ a W n R, WOk W H n ∧ DR G.K W x a ∧ g a R ∧ VPost G.K W H n R Q
def gNeg : G1 := fun a R => match a with
  | .int i => R (.dat (.int (-i)))
  | _ => False
theorem d_neg : UnD X G (unaryOp .USub) gNeg := by
  intro pins s σ H x v Q I rx ⟨a, W, n, R, ok, ha, hg, hp⟩
  unfold gNeg at hg
  split at hg
  · cases ha
    exact un_neg pins s σ H _ v Q I rx ⟨_, rfl, hp.same ok hg (.int _)⟩
  · exact hg.elim
theorem o_un {a : Expr} {ma : M} {op : UnaryOp} {g : G1} {pos : Pos} (ho : UnD X G (unaryOp op) g) (ha : PE X a (tOf G ma)) : PE X (.UnaryOp op a pos) (tOf G (mUn g ma)) := pe_imp (pe_un ho ha) fun σ H Q h => by
  obtain ⟨ρ, n, W, R, RX, r, h, l, x⟩ := h
  exact of_bindD r x h fun a ρ1 n1 v H1 W1 h1 r1 g1 d1 x1 => ⟨a, W1, n1, _, r1.ok, d1, h1, vpost_of r1 (l.go g1)⟩
theorem o_not {a : Expr} {ma : M} {pos : Pos} (ha : PE X a (tOf G ma)) : PE X (.UnaryOp .Not a pos) (tOf G (mNot ma)) := pe_imp (pe_not ha) fun σ H Q h => by
  obtain ⟨ρ, n, W, R, RX, r, h, l, x⟩ := h
  exact of_test r x h fun c ρ1 n1 H1 W1 h1 r1 g1 x1 => l _ _ _ _ _ _ h1 r1 g1 (.bl _)
theorem o_and1 {a : Expr} {ma : M} {pos : Pos} {op : BoolOp} (h : PE X a (tOf G ma)) : PE X (.BoolOp op [a] pos) (tOf G ma) := pe_one h
theorem o_and {a b : Expr} {ma mb : M} {rest : List Expr} {pos : Pos} (ha : PE X a (tOf G ma)) (hb : PE X (.BoolOp .And (b :: rest) pos) (tOf G mb)) : PE X (.BoolOp .And (a :: b :: rest) pos) (tOf G (mAnd ma mb)) := pe_imp (pe_and ha hb) fun σ H Q h => by
  obtain ⟨ρ, n, W, R, RX, r, h, l, x⟩ := h
  refine of_test r x h fun c ρ1 n1 H1 W1 h1 r1 g1 x1 => wIf.ite ⟨fun e => ?_, fun e => ?_⟩
  · exact ⟨ρ1, n1, W1, R, RX, r1, h1.1 e, l.go g1, x1⟩
  · exact l _ _ _ _ _ _ (h1.2 e) r1 g1 (.bl _)
theorem o_or {a b : Expr} {ma mb : M} {rest : List Expr} {pos : Pos} (ha : PE X a (tOf G ma)) (hb : PE X (.BoolOp .Or (b :: rest) pos) (tOf G mb)) : PE X (.BoolOp .Or (a :: b :: rest) pos) (tOf G (mOr ma mb)) := pe_imp (pe_or ha hb) fun σ H Q h => by
  obtain ⟨ρ, n, W, R, RX, r, h, l, x⟩ := h
  refine of_test r x h fun c ρ1 n1 H1 W1 h1 r1 g1 x1 => wIf.ite ⟨fun e => ?_, fun e => ?_⟩
  · exact l _ _ _ _ _ _ (h1.1 e) r1 g1 (.bl _)
  · exact ⟨ρ1, n1, W1, R, RX, r1, h1.2 e, l.go g1, x1⟩
end
end PL

set_option Elab.async false
set_option linter.all false
set_option maxRecDepth 100000
set_option maxHeartbeats 4000000
namespace PL
open PySem L2
section
variable {X : Cx} {G : Gx} {e a b : Expr} {ma mb : M} {pos : Pos} {es : List Expr}

/-! ### arguments -/
abbrev MA := List S → Nat → (List D → List S → Nat → Prop) → XR → Prop
def AL (G : Gx) (σ : L2.St) (ρ : List S) (W : Wd) (H : Hp) (R : List D → List S → Nat → Prop) (Q : List V → Hp → Prop) : Prop := ∀ ds ρ' n' vs H' W', R ds ρ' n' → Rel G.K σ ρ' n' W' H' → GoE σ ρ W H ρ' W' H' → DRs G.K W' vs ds → XL G σ ρ' W' H' (fun _ _ _ => False) → Q vs H'
def taOf (G : Gx) (m : MA) : TA := fun σ H Q => ∃ ρ n W R RX, Rel G.K σ ρ n W H ∧ m ρ n R RX ∧ (∀ ds ρ' n' vs H' W', R ds ρ' n' → Rel G.K σ ρ' n' W' H' → GoE σ ρ W H ρ' W' H' → DRs G.K W' vs ds → Q vs H') ∧ XL G σ ρ W H RX
theorem of_args {m : MA} {σ : L2.St} {H : Hp} {Q : List V → Hp → Prop} {ρ : List S} {n : Nat} {W : Wd} {RX : XR} {R1 : List D → List S → Nat → Prop} (r : Rel G.K σ ρ n W H) (x : XL G σ ρ W H RX) (h : m ρ n R1 RX)
    (k : ∀ ds ρ1 n1 vs H1 W1, R1 ds ρ1 n1 → Rel G.K σ ρ1 n1 W1 H1 → GoE σ ρ W H ρ1 W1 H1 → DRs G.K W1 vs ds → XL G σ ρ1 W1 H1 RX → Q vs H1) : taOf G m σ H Q :=
  ⟨ρ, n, W, R1, RX, r, h, fun ds ρ1 n1 vs H1 W1 h1 r1 g1 d1 => k ds ρ1 n1 vs H1 W1 h1 r1 g1 d1 (x.go g1.go), x⟩
def aNil : MA := fun ρ n R _ => R [] ρ n
def aCons (ma : M) (m : MA) : MA := fun ρ n R RX => ma ρ n (fun s ρ1 n1 => toD s fun d => m ρ1 n1 (fun ds ρ2 n2 => R (d :: ds) ρ2 n2) RX) RX
theorem a_nil : PA X [] (taOf G aNil) := pa_imp pa_nil fun σ H Q h => by
  obtain ⟨ρ, n, W, R, RX, r, h, l, x⟩ := h
  exact l [] ρ n [] H W h r (GoE.refl _ _ _ _) .nil
theorem a_cons {m : MA} (ha : PE X e (tOf G ma)) (hr : PA X es (taOf G m)) (hs : starEach (e :: es) X.env = (false, eval e X.env) :: starEach es X.env := by rfl) : PA X (e :: es) (taOf G (aCons ma m)) := pa_imp (pa_cons ha hr hs) fun σ H Q h => by
  obtain ⟨ρ, n, W, R, RX, r, h, l, x⟩ := h
  exact of_bindD r x h fun d ρ1 n1 v H1 W1 h1 r1 g1 d1 x1 => of_args r1 x1 h1 fun ds ρ2 n2 vs H2 W2 h2 r2 g2 d2 x2 => l (d :: ds) ρ2 n2 (v :: vs) H2 W2 h2 r2 (g1.trans g2) (.cons (d1.mono g2.go.le) d2)
/-- the items of a list, a tuple -/
def seqD : D → (List D → Prop) → Prop
  | .tup ds, k => k ds
  | .lst ds, k => k ds
  | _, _ => False
theorem seqD_some {d : D} {k : List D → Prop} (h : seqD d k) : ∃ ds, (d = .tup ds ∨ d = .lst ds) ∧ k ds := by
  unfold seqD at h
  split at h
  · exact ⟨_, .inl rfl, h⟩
  · exact ⟨_, .inr rfl, h⟩
  · exact h.elim
theorem seq_read {K : PySem.W.Frag} {W : Wd} {H : Hp} {n : Nat} {v : V} {d : D} {ds : List D} (ok : WOk W H n) (h : DR K W v d) (e : d = .tup ds ∨ d = .lst ds) : ∃ p vs, v = .ref p ∧ (SqT K H p vs ∨ SqL K H p vs) ∧ DRs K W vs ds := by
  rcases e with e | e
  · subst e
    cases h with
    | tup h r => exact ⟨_, _, rfl, .inl (sqt_H ok h), r⟩
  · subst e
    cases h with
    | lst h r => exact ⟨_, _, rfl, .inr (sql_H ok h), r⟩
def aStar (ma : M) (m : MA) : MA := fun ρ n R RX => ma ρ n (fun s ρ1 n1 => toD s fun d => seqD d fun fs => m ρ1 n1 (fun ds ρ2 n2 => R (fs ++ ds) ρ2 n2) RX) RX
theorem a_star (c : Ctx X G) {m : MA} {p : Pos} (ha : PE X e (tOf G ma)) (hr : PA X es (taOf G m)) (hs : starEach (.Starred e p :: es) X.env = (true, eval e X.env) :: starEach es X.env := by rfl) : PA X (.Starred e p :: es) (taOf G (aStar ma m)) := pa_imp (StX.pa_star ha hr hs) fun σ H Q h => by
  obtain ⟨ρ, n, W, R, RX, r, h, l, x⟩ := h
  refine of_bindD r x h fun d ρ1 n1 v H1 W1 h1 r1 g1 d1 x1 => ?_
  obtain ⟨fs, e, h1⟩ := seqD_some h1
  obtain ⟨p, vs, rfl, hq, hv⟩ := seq_read r1.ok d1 e
  rw [← c.K] at hq
  exact ⟨p, vs, rfl, hq, of_args r1 x1 h1 fun ds ρ2 n2 ws H2 W2 h2 r2 g2 d2 x2 => l (fs ++ ds) ρ2 n2 (vs ++ ws) H2 W2 h2 r2 (g1.trans g2) ((hv.mono g2.go.le).append d2)⟩

/-! ### displays -/
def mTup (m : MA) : M := fun ρ n R RX => m ρ n (fun ds ρ1 n1 => ds.length ≤ 1000000 ∧ R (.dat (.tup ds)) ρ1 n1) RX
def mLst (m : MA) : M := fun ρ n R RX => m ρ n (fun ds ρ1 n1 => ds.length ≤ 1000000 ∧ R (.own ds) ρ1 n1) RX
theorem o_tup {m : MA} {x1} (h : PA X es (taOf G m)) : PE X (.Tuple es x1 pos) (tOf G (mTup m)) := pe_imp (pe_tup h) fun σ H Q h => by
  obtain ⟨ρ, n, W, R, RX, r, h, l, x⟩ := h
  refine of_args r x h fun ds ρ1 n1 vs H1 W1 h1 r1 g1 d1 x1 => ⟨by rw [d1.length]; exact sq_line h1.1, fun p np => ?_⟩
  exact (vpost_of r1 (l.go g1)).tup r1.ok h1.2 d1 np
theorem o_lst {m : MA} (h : PA X es (taOf G m)) : PE X (.List es pos) (tOf G (mLst m)) := pe_imp (pe_lst h) fun σ H Q h => by
  obtain ⟨ρ, n, W, R, RX, r, h, l, x⟩ := h
  refine of_args r x h fun ds ρ1 n1 vs H1 W1 h1 r1 g1 d1 x1 => ⟨by rw [d1.length]; exact sq_line h1.1, fun p np => ?_⟩
  exact (vpost_of r1 (l.go g1)).lst r1.ok h1.2 d1 np
def mDic0 : M := fun ρ n R _ => R (.ownd []) ρ n
theorem o_dic0 : PE X (.Dict [] [] pos) (tOf G mDic0) := pe_imp pe_dnewK fun σ H Q h => by
  obtain ⟨ρ, n, W, R, RX, r, h, l, x⟩ := h
  exact fun p np => (vpost_of r l).dict r.ok h np

/-! ### subscripts -/
def gIdx : G2 := fun a b R => match a, b with
  | .lst ds, .int i => ∃ d, atI ds i = some d ∧ R (.dat d)
  | .tup ds, .int i => ∃ d, atI ds i = some d ∧ R (.dat d)
  | .str x, .int i => x.length ≤ 1000000 ∧ ∃ c, atI x.cps.toList i = some c ∧ R (.dat (.str ⟨#[c]⟩))
  | _, _ => False
theorem atI_get {K : PySem.W.Frag} {W : Wd} {vs : List V} {ds : List D} {i : Int} {d : D} (r : DRs K W vs ds) (h : atI ds i = some d) : ∃ v, atI vs i = some v ∧ DR K W v d := by
  unfold atI at h ⊢
  rw [r.length]
  cases q : ixN ds.length i with
  | none => rw [q] at h; cases h
  | some j =>
    rw [q] at h
    exact r.get j h
theorem ix_read (c : Ctx X G) {x y : V} {W : Wd} {H : Hp} {n : Nat} {a b : D} {R : S → Prop} {Q : VK} (ok : WOk W H n) (ha : DR G.K W x a) (hb : DR G.K W y b) (hg : gIdx a b R) (hp : VPost G.K W H n R Q) : rIx X.K x y H Q := by
  unfold gIdx at hg
  split at hg
  · obtain ⟨d, e, hR⟩ := hg
    cases hb
    cases ha with
    | lst h r =>
      obtain ⟨v, e1, dv⟩ := atI_get r e
      have q := sql_H ok h
      rw [← c.K] at q
      exact .inl ⟨_, _, _, v, rfl, rfl, q, e1, hp.same ok hR dv⟩
  · obtain ⟨d, e, hR⟩ := hg
    cases hb
    cases ha with
    | tup h r =>
      obtain ⟨v, e1, dv⟩ := atI_get r e
      have q := sqt_H ok h
      rw [← c.K] at q
      exact .inr (.inl ⟨_, _, _, v, rfl, rfl, q, e1, hp.same ok hR dv⟩)
  · obtain ⟨hl, cc, e, hR⟩ := hg
    cases ha; cases hb
    exact .inr (.inr ⟨_, _, cc, rfl, rfl, sq_line hl, e, hp.same ok hR (.str _)⟩)
  · exact hg.elim
theorem o_idx (c : Ctx X G) (ha : PE X a (tOf G ma)) (hb : PE X b (tOf G mb)) (hs : PlainIx b) : PE X (.Subscript a b pos) (tOf G (mBin gIdx ma mb)) := pe_imp (pe_ix ix_seq ha hb hs) fun σ H Q h => by
  obtain ⟨ρ, n, W, R, RX, r, h, l, x⟩ := h
  exact of_bindD r x h fun a ρ1 n1 v H1 W1 h1 r1 g1 d1 x1 => of_bindD r1 x1 h1 fun b ρ2 n2 u H2 W2 h2 r2 g2 d2 x2 => ix_read c r2.ok (d1.mono g2.go.le) d2 h2 (vpost_of r2 (l.go (g1.trans g2)))
/-- a list of the frame's own, looked at -/
def peek : S → (List D → Prop) → Prop
  | .own ds, k => k ds
  | .dat (.lst ds), k => k ds
  | .dat (.tup ds), k => k ds
  | _, _ => False
def mIdxV (i : Nat) (mb : M) : M := fun ρ n R RX => (∃ s, ρ[i]? = some s ∧ s.isOwn) ∧ mb ρ n (fun s ρ1 n1 => toD s fun b => match ρ1[i]?, b with
  | some (.own ds), .int k => ∃ d, atI ds k = some d ∧ R (.dat d) ρ1 n1
  | _, _ => False) RX
theorem o_idxV (c : Ctx X G) {i : Nat} (ha : PE X a (tVar i)) (hb : PE X b (tOf G mb)) (hs : PlainIx b) : PE X (.Subscript a b pos) (tOf G (mIdxV i mb)) := pe_imp (pe_ix ix_seq ha hb hs) fun σ H Q h => by
  obtain ⟨ρ, n, W, R, RX, r, ⟨⟨s0, e0, o0⟩, h⟩, l, x⟩ := h
  obtain ⟨p0, ep, hc0, _⟩ := (r.sl i s0 e0).of_own o0
  refine ⟨.ref p0, ep, of_bindD r x h fun b ρ1 n1 v H1 W1 h1 r1 g1 d1 x1 => ?_⟩
  split at h1
  · rename_i ds k e1
    obtain ⟨d, e2, hR⟩ := h1
    obtain ⟨p, e3, ⟨vs, hp, hv⟩, ho⟩ := r1.sl i _ e1
    rw [ep] at e3; cases e3
    cases d1
    obtain ⟨u, e4, du⟩ := atI_get hv e2
    exact .inl ⟨p0, vs, k, u, rfl, rfl, .inl (.inl hp), e4, rl_same r1 (l.go g1) hR du⟩
  · exact h1.elim
/-! slices -/
def oPart : Option M → List S → Nat → (Option Int → List S → Nat → Prop) → XR → Prop
  | none, ρ, n, R, _ => R none ρ n
  | some m, ρ, n, R, RX => m ρ n (fun s ρ1 n1 => ∃ i, s = .dat (.int i) ∧ R (some i) ρ1 n1) RX
def toOf (G : Gx) (o : Option M) : TO := fun σ H Q => ∃ ρ n W R RX, Rel G.K σ ρ n W H ∧ oPart o ρ n R RX ∧ (∀ i ρ' n' H' W', R i ρ' n' → Rel G.K σ ρ' n' W' H' → GoE σ ρ W H ρ' W' H' → Q i H') ∧ XL G σ ρ W H RX
def cutD (ds : List D) (lo hi : Option Int) : List D := (ds.drop (HT.sIx ds.length 0 lo)).take (HT.sIx ds.length ds.length hi - HT.sIx ds.length 0 lo)
theorem DRs.cut {K : PySem.W.Frag} {W : Wd} {vs : List V} {ds : List D} (r : DRs K W vs ds) (lo hi : Option Int) : DRs K W (cutV vs lo hi) (cutD ds lo hi) := by
  unfold cutV cutD
  rw [r.length]
  exact (r.drop _).take _
def gCut : D → Option Int → Option Int → (S → Prop) → Prop := fun a lo hi R => match a with
  | .lst ds => R (.own (cutD ds lo hi))
  | .tup ds => R (.dat (.tup (cutD ds lo hi)))
  | .str x => x.length ≤ 1000000 ∧ R (.dat (.str (cutS x lo hi)))
  | _ => False
def mCut (ma : M) (lo hi : Option M) : M := fun ρ n R RX => ma ρ n (fun s ρ1 n1 => toD s fun a => oPart lo ρ1 n1 (fun i ρ2 n2 => oPart hi ρ2 n2 (fun j ρ3 n3 => gCut a i j fun z => R z ρ3 n3) RX) RX) RX
theorem o_none : PO X none (toOf G none) := ⟨fun pins s σ H Q I h => (po_none (X := X)).run pins s σ H Q I (by
  obtain ⟨ρ, n, W, R, RX, r, h, l, x⟩ := h
  exact l none ρ n H W h r (GoE.refl _ _ _ _))⟩
theorem o_some (ha : PE X e (tOf G ma)) : PO X (some e) (toOf G (some ma)) := ⟨fun pins s σ H Q I h => (po_some ha).run pins s σ H Q I (by
  obtain ⟨ρ, n, W, R, RX, r, h, l, x⟩ := h
  refine of_bind r x h fun s1 ρ1 n1 v H1 W1 h1 r1 g1 s2 x1 => ?_
  obtain ⟨i, rfl, hi⟩ := h1
  cases s2
  exact ⟨i, rfl, l (some i) ρ1 n1 H1 W1 hi r1 g1⟩)⟩
theorem of_part {o : Option M} {σ : L2.St} {H : Hp} {Q : Option Int → Hp → Prop} {ρ : List S} {n : Nat} {W : Wd} {RX : XR} {R1 : Option Int → List S → Nat → Prop} (r : Rel G.K σ ρ n W H) (x : XL G σ ρ W H RX) (h : oPart o ρ n R1 RX)
    (k : ∀ i ρ1 n1 H1 W1, R1 i ρ1 n1 → Rel G.K σ ρ1 n1 W1 H1 → GoE σ ρ W H ρ1 W1 H1 → XL G σ ρ1 W1 H1 RX → Q i H1) : toOf G o σ H Q :=
  ⟨ρ, n, W, R1, RX, r, h, fun i ρ1 n1 H1 W1 h1 r1 g1 => k i ρ1 n1 H1 W1 h1 r1 g1 (x.go g1.go), x⟩
theorem cut_whole {K : PySem.W.Frag} {W : Wd} {vs : List V} {ds : List D} {lo hi : Option Int} (r : DRs K W vs ds) (h : HT.sIx vs.length 0 lo = 0 ∧ HT.sIx vs.length vs.length hi = vs.length) : cutD ds lo hi = ds := by
  rw [r.length] at h
  unfold cutD
  rw [h.1, h.2, List.drop_zero, Nat.sub_zero, List.take_length]
theorem o_cut (c : Ctx X G) {lo hi : Option Expr} {p2 : Pos} {ol oh : Option M} (ha : PE X a (tOf G ma)) (hl : PO X lo (toOf G ol)) (hh : PO X hi (toOf G oh)) : PE X (.Subscript a (.Slice lo hi none p2) pos) (tOf G (mCut ma ol oh)) :=
  pe_imp (pe_slice ((sl_list (X := X)).or ((sl_tupA (X := X)).or (sl_str (X := X)))) ha hl hh) fun σ H Q h => by
  obtain ⟨ρ, n, W, R, RX, r, h, l, x⟩ := h
  refine of_bindD r x h fun a ρ1 n1 v H1 W1 h1 r1 g1 d1 x1 => of_part r1 x1 h1 fun i ρ2 n2 H2 W2 h2 r2 g2 x2 => of_part r2 x2 h2 fun j ρ3 n3 H3 W3 h3 r3 g3 x3 => ?_
  have vp := vpost_of r3 (l.go (g1.trans (g2.trans g3)))
  have d3 := (d1.mono g2.go.le).mono g3.go.le
  unfold gCut at h3
  split at h3
  · cases d3 with
    | lst hh rr =>
      have q := sql_H r3.ok hh
      rw [← c.K] at q
      exact .inl ⟨_, _, rfl, q, fun p np => vp.lst r3.ok h3 (rr.cut i j) np⟩
  · cases d3 with
    | tup hh rr =>
      have q := sqt_H r3.ok hh
      rw [← c.K] at q
      refine .inr (.inl ⟨_, _, rfl, q, fun e => ?_, fun _ p np => vp.tup r3.ok h3 (rr.cut i j) np⟩)
      rw [cut_whole rr e] at h3
      exact vp.same r3.ok h3 (.tup hh rr)
  · cases d3
    exact .inr (.inr ⟨_, rfl, sq_line h3.1, vp.same r3.ok h3.2 (.str _)⟩)
  · exact h3.elim
end
end PL

set_option Elab.async false
set_option linter.all false
set_option maxRecDepth 100000
set_option maxHeartbeats 4000000
namespace PL
open PySem L2
section
variable {X : Cx} {G : Gx} {e a b : Expr} {ma mb : M} {pos p : Pos} {es : List Expr}

/-! ### built-ins -/
abbrev GA := List D → (S → Prop) → Prop
def CallD (X : Cx) (G : Gx) (f : Value) (g : GA) : Prop := CallR X f fun vs H Q => ∃ ds W n R, WOk W H n ∧ DRs G.K W vs ds ∧ g ds R ∧ VPost G.K W H n R Q
def mCB (g : GA) (m : MA) : M := fun ρ n R RX => m ρ n (fun ds ρ1 n1 => g ds fun z => R z ρ1 n1) RX
theorem cb_read {g : GA} {m : MA} {σ : L2.St} {H : Hp} {Q : VK} (h : tOf G (mCB g m) σ H Q) :
    tCB (fun vs H Q => ∃ ds W n R, WOk W H n ∧ DRs G.K W vs ds ∧ g ds R ∧ VPost G.K W H n R Q) (taOf G m) σ H Q := by
  obtain ⟨ρ, n, W, R, RX, r, h, l, x⟩ := h
  exact of_args r x h fun ds ρ1 n1 vs H1 W1 h1 r1 g1 d1 x1 => ⟨ds, W1, n1, _, r1.ok, d1, h1, vpost_of r1 (l.go g1)⟩
theorem o_cb {x : Str} {id : String} {g : GA} {m : MA} (hc : CallD X G (.builtin id) g) (hg : Gl X x) (hm : X.mg x = none) (hv : bootBuiltins x = some (.builtin id)) (ha : PA X (e :: es) (taOf G m)) (hn : x ≠ "__name__" := by decide) (hdb : (x == ("__debug__" : Str)) = false := by decide)
    (he : starEach (e :: es) X.env = (false, eval e X.env) :: starEach es X.env := by rfl) (hpl : (backTo pos (starEach es X.env)).any (·.1) = false := by rfl) : PE X (.Call (.Name x p) (e :: es) [] pos) (tOf G (mCB g m)) := by
  refine pe_imp ?_ fun σ H Q h => cb_read h
  exact pe_callB hc hg hm hv ha hn hdb (he := he) (hpl := hpl)
theorem o_cty {x : Str} {id : String} {g : GA} {m : MA} (hc : CallD X G (.type id) g) (hg : Gl X x) (hm : X.mg x = none) (hv : bootBuiltins x = some (.type id)) (ha : PA X (e :: es) (taOf G m)) (hn : x ≠ "__name__" := by decide) (hdb : (x == ("__debug__" : Str)) = false := by decide)
    (he : starEach (e :: es) X.env = (false, eval e X.env) :: starEach es X.env := by rfl) (hpl : (backTo pos (starEach es X.env)).any (·.1) = false := by rfl) : PE X (.Call (.Name x p) (e :: es) [] pos) (tOf G (mCB g m)) := by
  refine pe_imp ?_ fun σ H Q h => cb_read h
  exact pe_callTy hc hg hm hv ha hn hdb (he := he) (hpl := hpl)

theorem drs1 {K : PySem.W.Frag} {W : Wd} {vs : List V} {d : D} (h : DRs K W vs [d]) : ∃ v, vs = [v] ∧ DR K W v d := by
  cases h with
  | cons h r => cases r; exact ⟨_, rfl, h⟩
theorem drs2 {K : PySem.W.Frag} {W : Wd} {vs : List V} {d e : D} (h : DRs K W vs [d, e]) : ∃ v w, vs = [v, w] ∧ DR K W v d ∧ DR K W w e := by
  cases h with
  | cons h r => obtain ⟨w, rfl, h2⟩ := drs1 r; exact ⟨_, w, rfl, h, h2⟩
/-! isinstance -/
inductive Ty where
  | non | bl | int | str | tup | lst
def tyD : D → Option Ty
  | .non => some .non
  | .bl _ => some .bl
  | .int _ => some .int
  | .str _ => some .str
  | .tup _ => some .tup
  | .lst _ => some .lst
  | _ => none
def tyN : Ty → String
  | .non => "NoneType"
  | .bl => "bool"
  | .int => "int"
  | .str => "str"
  | .tup => "tuple"
  | .lst => "list"
def isT : Ty → String → Option Bool
  | t, "int" => some (match t with | .int => true | .bl => true | _ => false)
  | t, "bool" => some (match t with | .bl => true | _ => false)
  | t, "str" => some (match t with | .str => true | _ => false)
  | t, "tuple" => some (match t with | .tup => true | _ => false)
  | t, "list" => some (match t with | .lst => true | _ => false)
  | _, _ => none
theorem isT_kit {t : Ty} {n : String} {b : Bool} (h : isT t n = some b) : kitB (tyN t) n = some b := by
  unfold isT at h
  split at h
  · cases t <;> (cases h; decide +kernel)
  · cases t <;> (cases h; decide +kernel)
  · cases t <;> (cases h; decide +kernel)
  · cases t <;> (cases h; decide +kernel)
  · cases t <;> (cases h; decide +kernel)
  · cases h
theorem tyX_of {K : PySem.W.Frag} {W : Wd} {H : Hp} {n : Nat} {v : V} {d : D} {t : Ty} (ok : WOk W H n) (h : DR K W v d) (e : tyD d = some t) : TyX K H v (.type (tyN t)) := by
  cases h with
  | non => cases e; exact .base .non
  | bl b => cases e; exact .base (.bl b)
  | int i => cases e; exact .base (.int i)
  | str x => cases e; exact .base (.str x)
  | ty n => cases e
  | ref a => cases e
  | pot a _ => cases e
  | tup h r =>
    cases e
    rcases sqt_H ok h with (h | ⟨o, h⟩) | ⟨o, its, m, h, hc, _⟩
    · exact .base (.tup h)
    · exact .fTuple h
    · exact .kTuple h hc
  | lst h r =>
    cases e
    rcases sql_H ok h with (h | ⟨o, h⟩) | ⟨o, its, m, h, hc, _⟩
    · exact .base (.lst h)
    · exact .base (.frz h)
    · exact .kList h hc
def gIsi : GA := fun ds R => match ds with
  | [d, .ty n] => match tyD d with
    | some t => match isT t n with
      | some b => R (.dat (.bl b))
      | none => False
    | none => False
  | _ => False
theorem gIsi_some {ds : List D} {R : S → Prop} (h : gIsi ds R) : ∃ d n t b, ds = [d, .ty n] ∧ tyD d = some t ∧ isT t n = some b ∧ R (.dat (.bl b)) := by
  unfold gIsi at h
  split at h
  · rename_i d n
    split at h
    · rename_i t ht
      split at h
      · rename_i b hb
        exact ⟨d, n, t, b, rfl, ht, hb, h⟩
      · exact h.elim
    · exact h.elim
  · exact h.elim
theorem d_isi (c : Ctx X G) : CallD X G (.builtin "isinstance") gIsi := by
  intro pins s σ H xs us Q I r ⟨ds, W, n, R, ok, hd, hg, hp⟩
  obtain ⟨d, m, t, b, rfl, ht, hb, hR⟩ := gIsi_some hg
  obtain ⟨v, w, rfl, h1, h2⟩ := drs2 hd
  cases h2
  have ty := tyX_of ok h1 ht
  rw [← c.K] at ty
  exact call_isi pins s σ H _ us Q I r ⟨v, .ty m, _, .type m, b, rfl, .ty m, ty, kit_ty (isT_kit hb), hp.same ok hR (.bl b)⟩
/-! len -/
def gLen : GA := fun ds R => match ds with
  | [.str x] => x.length ≤ 1000000 ∧ R (.dat (.int (x.length : Nat)))
  | [.tup xs] => R (.dat (.int (xs.length : Nat)))
  | [.lst xs] => R (.dat (.int (xs.length : Nat)))
  | _ => False
theorem d_len (c : Ctx X G) : CallD X G (.builtin "len") gLen := by
  intro pins s σ H xs us Q I r ⟨ds, W, n, R, ok, hd, hg, hp⟩
  unfold gLen at hg
  split at hg
  · obtain ⟨v, rfl, h⟩ := drs1 hd
    cases h
    exact call_len_str pins s σ H _ us Q I r ⟨_, rfl, sq_line hg.1, hp.same ok hg.2 (.int _)⟩
  · obtain ⟨v, rfl, h⟩ := drs1 hd
    cases h with
    | tup h rr =>
      have q := sqt_H ok h
      rw [← c.K] at q
      refine call_len_seq pins s σ H _ us Q I r ⟨_, _, rfl, .inr q, ?_⟩
      rw [rr.length]
      exact hp.same ok hg (.int _)
  · obtain ⟨v, rfl, h⟩ := drs1 hd
    cases h with
    | lst h rr =>
      have q := sql_H ok h
      rw [← c.K] at q
      refine call_len_seq pins s σ H _ us Q I r ⟨_, _, rfl, .inl q, ?_⟩
      rw [rr.length]
      exact hp.same ok hg (.int _)
  · exact hg.elim
/-- len(x), x a list of the frame's own -/
def mLenV (i : Nat) : M := fun ρ n R _ => match ρ[i]? with
  | some (.own ds) => R (.dat (.int (ds.length : Nat))) ρ n
  | _ => False
theorem o_lenV {i : Nat} (c : Ctx X G) (ha : PE X a (tVar i)) (hg : Gl X "len") (hm : X.mg "len" = none)
    (he : starEach [a] X.env = (false, eval a X.env) :: starEach [] X.env := by rfl) : PE X (.Call (.Name "len" p) [a] [] pos) (tOf G (mLenV i)) := by
  refine pe_imp (pe_callB call_len_seq hg hm PySem.boot_len (pa_cons ha pa_nil he) (he := he)) fun σ H Q h => ?_
  obtain ⟨ρ, n, W, R, RX, r, h, l, x⟩ := h
  unfold mLenV at h
  split at h
  · rename_i ds e1
    obtain ⟨q, e3, ⟨vs, hp, hv⟩, ho⟩ := r.sl i _ e1
    refine ⟨.ref q, e3, ⟨q, vs, rfl, .inl (.inl (.inl hp)), ?_⟩⟩
    rw [hv.length]
    exact rl_same r l h (.int _)
  · exact h.elim
/-! numbers -/
def gAbs : GA := fun ds R => match ds with
  | [.int i] => R (.dat (.int (if i < 0 then -i else i)))
  | _ => False
theorem d_abs : CallD X G (.builtin "abs") gAbs := by
  intro pins s σ H xs us Q I r ⟨ds, W, n, R, ok, hd, hg, hp⟩
  unfold gAbs at hg
  split at hg
  · obtain ⟨v, rfl, h⟩ := drs1 hd
    cases h
    exact call_abs pins s σ H _ us Q I r ⟨_, rfl, hp.same ok hg (.int _)⟩
  · exact hg.elim
def gInt : GA := fun ds R => match ds with
  | [.int i] => R (.dat (.int i))
  | [.bl k] => R (.dat (.int (if k then 1 else 0)))
  | _ => False
theorem d_int : CallD X G (.type "int") gInt := by
  intro pins s σ H xs us Q I r ⟨ds, W, n, R, ok, hd, hg, hp⟩
  unfold gInt at hg
  split at hg
  · obtain ⟨v, rfl, h⟩ := drs1 hd
    cases h
    exact call_int1 pins s σ H _ us Q I r (.inl ⟨_, rfl, hp.same ok hg (.int _)⟩)
  · obtain ⟨v, rfl, h⟩ := drs1 hd
    cases h
    exact call_int1 pins s σ H _ us Q I r (.inr ⟨_, rfl, hp.same ok hg (.int _)⟩)
  · exact hg.elim
def gMax : GA := fun ds R => match ds with
  | [.int i, .int j] => R (.dat (.int (if j > i then j else i)))
  | _ => False
theorem d_max (c : Ctx X G) : CallD X G (.builtin "max") gMax := by
  intro pins s σ H xs us Q I r ⟨ds, W, n, R, ok, hd, hg, hp⟩
  unfold gMax at hg
  split at hg
  · obtain ⟨v, w, rfl, h, h'⟩ := drs2 hd
    cases h; cases h'
    exact call_max2 c.calm pins s σ H _ us Q I r ⟨_, _, rfl, hp.same ok hg (.int _)⟩
  · exact hg.elim
def gMin : GA := fun ds R => match ds with
  | [.int i, .int j] => R (.dat (.int (if j < i then j else i)))
  | _ => False
theorem d_min (c : Ctx X G) : CallD X G (.builtin "min") gMin := by
  intro pins s σ H xs us Q I r ⟨ds, W, n, R, ok, hd, hg, hp⟩
  unfold gMin at hg
  split at hg
  · obtain ⟨v, w, rfl, h, h'⟩ := drs2 hd
    cases h; cases h'
    exact call_min2 c.calm pins s σ H _ us Q I r ⟨_, _, rfl, hp.same ok hg (.int _)⟩
  · exact hg.elim
/-! sums, all, any -/
def intsD : List D → Option (List Int)
  | [] => some []
  | .int i :: ds => (intsD ds).map (i :: ·)
  | _ :: _ => none
def blsD : List D → Option (List Bool)
  | [] => some []
  | .bl i :: ds => (blsD ds).map (i :: ·)
  | _ :: _ => none
theorem intsD_map : ∀ ns : List Int, intsD (ns.map D.int) = some ns
  | [] => rfl
  | n :: ns => by rw [List.map_cons, intsD, intsD_map ns]; rfl
theorem blsD_map : ∀ ns : List Bool, blsD (ns.map D.bl) = some ns
  | [] => rfl
  | n :: ns => by rw [List.map_cons, blsD, blsD_map ns]; rfl
theorem intsD_some : ∀ {ds : List D} {ns : List Int}, intsD ds = some ns → ds = ns.map D.int
  | [], ns, h => by cases h; rfl
  | .int i :: ds, ns, h => by
    unfold intsD at h
    cases q : intsD ds with
    | none => rw [q] at h; cases h
    | some ms => rw [q] at h; cases h; rw [List.map_cons, intsD_some q]
  | .non :: _, _, h => by cases h
  | .bl _ :: _, _, h => by cases h
  | .str _ :: _, _, h => by cases h
  | .ty _ :: _, _, h => by cases h
  | .ref _ :: _, _, h => by cases h
  | .pot :: _, _, h => by cases h
  | .tup _ :: _, _, h => by cases h
  | .lst _ :: _, _, h => by cases h
theorem blsD_some : ∀ {ds : List D} {ns : List Bool}, blsD ds = some ns → ds = ns.map D.bl
  | [], ns, h => by cases h; rfl
  | .bl i :: ds, ns, h => by
    unfold blsD at h
    cases q : blsD ds with
    | none => rw [q] at h; cases h
    | some ms => rw [q] at h; cases h; rw [List.map_cons, blsD_some q]
  | .non :: _, _, h => by cases h
  | .int _ :: _, _, h => by cases h
  | .str _ :: _, _, h => by cases h
  | .ty _ :: _, _, h => by cases h
  | .ref _ :: _, _, h => by cases h
  | .pot :: _, _, h => by cases h
  | .tup _ :: _, _, h => by cases h
  | .lst _ :: _, _, h => by cases h
theorem DRs.of_bls {K : PySem.W.Frag} {W : Wd} : ∀ {vs : List V} {ns : List Bool}, DRs K W vs (ns.map D.bl) → vs = ns.map V.bl
  | [], [], .nil => rfl
  | _ :: _, _ :: _, .cons (.bl _) r => by rw [List.map_cons, DRs.of_bls r]
def gSum : GA := fun ds R => match ds with
  | [.lst xs] => ∃ ns, intsD xs = some ns ∧ R (.dat (.int ns.sum))
  | _ => False
theorem d_sum (c : Ctx X G) : CallD X G (.builtin "sum") gSum := by
  intro pins s σ H xs us Q I r ⟨ds, W, n, R, ok, hd, hg, hp⟩
  unfold gSum at hg
  split at hg
  · obtain ⟨ns, e, hR⟩ := hg
    obtain ⟨v, rfl, h⟩ := drs1 hd
    cases h with
    | lst h rr =>
      rw [intsD_some e] at rr
      have q := sql_H ok h
      rw [← c.K, DRs.of_ints rr] at q
      exact cr_sum c.calm pins s σ H _ us Q I r ⟨_, ns, rfl, q, hp.same ok hR (.int _)⟩
  · exact hg.elim
def gAll : GA := fun ds R => match ds with
  | [.lst xs] => ∃ ns, blsD xs = some ns ∧ R (.dat (.bl (ns.all id)))
  | _ => False
theorem d_all (c : Ctx X G) : CallD X G (.builtin "all") gAll := by
  intro pins s σ H xs us Q I r ⟨ds, W, n, R, ok, hd, hg, hp⟩
  unfold gAll at hg
  split at hg
  · obtain ⟨ns, e, hR⟩ := hg
    obtain ⟨v, rfl, h⟩ := drs1 hd
    cases h with
    | lst h rr =>
      rw [blsD_some e] at rr
      have q := sql_H ok h
      rw [← c.K, DRs.of_bls rr] at q
      exact cr_all c.calm pins s σ H _ us Q I r ⟨_, ns, rfl, q, hp.same ok hR (.bl _)⟩
  · exact hg.elim
def gAny : GA := fun ds R => match ds with
  | [.lst xs] => ∃ ns, blsD xs = some ns ∧ R (.dat (.bl (ns.any id)))
  | _ => False
theorem d_any (c : Ctx X G) : CallD X G (.builtin "any") gAny := by
  intro pins s σ H xs us Q I r ⟨ds, W, n, R, ok, hd, hg, hp⟩
  unfold gAny at hg
  split at hg
  · obtain ⟨ns, e, hR⟩ := hg
    obtain ⟨v, rfl, h⟩ := drs1 hd
    cases h with
    | lst h rr =>
      rw [blsD_some e] at rr
      have q := sql_H ok h
      rw [← c.K, DRs.of_bls rr] at q
      exact cr_any c.calm pins s σ H _ us Q I r ⟨_, ns, rfl, q, hp.same ok hR (.bl _)⟩
  · exact hg.elim
/-! list(..), tuple(..) -/
def gLstOf : GA := fun ds R => match ds with
  | [.lst xs] => R (.own xs)
  | [.tup xs] => R (.own xs)
  | _ => False
theorem d_lstOf (c : Ctx X G) : CallD X G (.type "list") gLstOf := by
  intro pins s σ H xs us Q I r ⟨ds, W, n, R, ok, hd, hg, hp⟩
  unfold gLstOf at hg
  split at hg
  · obtain ⟨v, rfl, h⟩ := drs1 hd
    cases h with
    | lst h rr =>
      have q := sql_H ok h
      rw [← c.K] at q
      exact call_list_of pins s σ H _ us Q I r ⟨_, _, rfl, .inl q, fun l nl => hp.lst ok hg rr nl⟩
  · obtain ⟨v, rfl, h⟩ := drs1 hd
    cases h with
    | tup h rr =>
      have q := sqt_H ok h
      rw [← c.K] at q
      exact call_list_of pins s σ H _ us Q I r ⟨_, _, rfl, .inr q, fun l nl => hp.lst ok hg rr nl⟩
  · exact hg.elim
def gTupOf : GA := fun ds R => match ds with
  | [.lst xs] => R (.dat (.tup xs))
  | [.tup xs] => R (.dat (.tup xs))
  | _ => False
theorem d_tupOf (c : Ctx X G) : CallD X G (.type "tuple") gTupOf := by
  intro pins s σ H xs us Q I r ⟨ds, W, n, R, ok, hd, hg, hp⟩
  unfold gTupOf at hg
  split at hg
  · obtain ⟨v, rfl, h⟩ := drs1 hd
    cases h with
    | lst h rr =>
      have q := sql_H ok h
      rw [← c.K] at q
      exact call_tuple_of pins s σ H _ us Q I r ⟨_, _, rfl, .inl ⟨q, fun l nl => hp.tup ok hg rr nl⟩⟩
  · obtain ⟨v, rfl, h⟩ := drs1 hd
    cases h with
    | tup h rr =>
      have q := sqt_H ok h
      rw [← c.K] at q
      exact call_tuple_of pins s σ H _ us Q I r ⟨_, _, rfl, .inr ⟨q, hp.same ok hg (.tup h rr)⟩⟩
  · exact hg.elim
/-! repr -/
def gRepr : GA := fun ds R => match ds with
  | [d] => d.plain = true ∧ d.py.showable = true ∧ d.py.hasDict = false ∧ d.py.depth ≤ 60 ∧ d.py.shown.length ≤ 1000000 ∧ R (.dat (.str d.py.shown))
  | _ => False
theorem d_repr (c : Ctx X G) : CallD X G (.builtin "repr") gRepr := by
  intro pins s σ H xs us Q I r ⟨ds, W, n, R, ok, hd, hg, hp⟩
  unfold gRepr at hg
  split at hg
  · rename_i d
    obtain ⟨h1, h2, h3, h4, h5, hR⟩ := hg
    obtain ⟨v, rfl, h⟩ := drs1 hd
    cases r with
    | cons r1 r2 =>
      rename_i u _
      cases r2
      have dp := h.dp ok.frz h1
      rw [← c.K] at dp
      obtain ⟨as, rd⟩ := Dp.reads I d.py v u dp r1
      have hq := hp.same ok hR (.str d.py.shown)
      have hu := c.un
      cases h with
      | non => cases r1; exact PySem.P.repr_of_none ⟨.str _, H, I.tok _, ⟨_, rfl⟩, hq⟩
      | bl b => cases r1; exact PySem.P.repr_of_bool ⟨.str _, H, I.tok _, ⟨_, rfl⟩, hq⟩
      | int i =>
        obtain ⟨t, rfl⟩ := r1
        exact PySem.P.repr_of_int (of_decide_eq_true h2) ⟨.str _, H, I.tok _, ⟨_, rfl⟩, hq⟩
      | str x =>
        obtain ⟨t, rfl⟩ := r1
        exact PySem.P.repr_of_str ⟨.str _, H, I.tok _, ⟨_, rfl⟩, hq⟩ (sq_line h5)
      | ty n => cases h1
      | ref a => cases h1
      | pot a _ => cases h1
      | tup hh rr =>
        cases r1
        refine repr_of_reads' rd h2 (PyData.noDict_hsm h3) c.gd (by omega) (fun _ _ e => e) (fun h' u tk k => ⟨.str _, H, I.kept k, ⟨u, rfl⟩, hq⟩) (sq_line h5)
      | lst hh rr =>
        cases r1
        refine repr_of_reads' rd h2 (PyData.noDict_hsm h3) c.gd (by omega) (fun _ _ e => e) (fun h' u tk k => ⟨.str _, H, I.kept k, ⟨u, rfl⟩, hq⟩) (sq_line h5)
  · exact hg.elim
end
end PL

set_option Elab.async false
set_option linter.all false
set_option maxRecDepth 100000
set_option maxHeartbeats 4000000
namespace PL
open PySem L2

/-! ### statements -/
structure ED where
  nx : List S → Nat → Prop
  rt : S → List S → Nat → Prop
  bk : List S → Nat → Prop := fun _ _ => False
  ct : List S → Nat → Prop := fun _ _ => False
  ex : XR := fun _ _ _ => False
abbrev MS := ED → List S → Nat → Prop
/-- what is handed back: data, or a container of the frame's own (Ok: whose it is) -/
def RT (K : PySem.W.Frag) (W : Wd) (H : Hp) (Ok : Addr → Prop) (v : V) : S → Prop
  | .un => False
  | .dat d => DR K W v d
  | s => ∃ p, v = .ref p ∧ CnAt K W H p s ∧ Out W p ∧ Ok p
theorem RT.imp {K : PySem.W.Frag} {W : Wd} {H : Hp} {Ok Ok' : Addr → Prop} {v : V} {s : S} (h : RT K W H Ok v s) (k : ∀ p, Ok p → Ok' p) : RT K W H Ok' v s := by
  cases s with
  | un => exact h
  | dat d => exact h
  | own ds => obtain ⟨p, h1, h2, h3, h4⟩ := h; exact ⟨p, h1, h2, h3, k p h4⟩
  | ownd ds => obtain ⟨p, h1, h2, h3, h4⟩ := h; exact ⟨p, h1, h2, h3, k p h4⟩
theorem RS.rt {K : PySem.W.Frag} {W : Wd} {H0 H : Hp} {Ok : Addr → Prop} {v : V} {s : S} (h : RS K W H0 H v s) (k : ∀ p, H0 p = none → Ok p) : RT K W H Ok v s := by
  cases s with
  | un => exact h
  | dat d => exact h
  | own ds => obtain ⟨p, h1, h2, h3, h4⟩ := h; exact ⟨p, h1, h2, h3, k p h4⟩
  | ownd ds => obtain ⟨p, h1, h2, h3, h4⟩ := h; exact ⟨p, h1, h2, h3, k p h4⟩
theorem RT.rs {K : PySem.W.Frag} {W : Wd} {H0 H : Hp} {v : V} {s : S} (h : RT K W H (fun p => H0 p = none) v s) : RS K W H0 H v s := by
  cases s <;> exact h
structure SL (G : Gx) (σ : L2.St) (ρ : List S) (W : Wd) (H : Hp) (DD : ED) (D : Ends) : Prop where
  nx : ∀ ρ' n' σ' H' W', DD.nx ρ' n' → Rel G.K σ' ρ' n' W' H' → Go σ ρ W H σ' ρ' W' H' → D.nx σ' H'
  rt : ∀ s n' v H' W' σ' ρ', DD.rt s ρ' n' → Rel G.K σ' ρ' n' W' H' → Go σ ρ W H σ' ρ' W' H' → RT G.K W' H' (fun p => Own σ ρ p ∨ H p = none) v s → D.rt v H'
  bk : ∀ ρ' n' σ' H' W', DD.bk ρ' n' → Rel G.K σ' ρ' n' W' H' → Go σ ρ W H σ' ρ' W' H' → D.bk σ' H'
  ct : ∀ ρ' n' σ' H' W', DD.ct ρ' n' → Rel G.K σ' ρ' n' W' H' → Go σ ρ W H σ' ρ' W' H' → D.ct σ' H'
  ex : XL G σ ρ W H DD.ex
theorem SL.go {G : Gx} {σ σ1 : L2.St} {ρ ρ1 : List S} {W W1 : Wd} {H H1 : Hp} {DD : ED} {D : Ends} (x : SL G σ ρ W H DD D) (g : Go σ ρ W H σ1 ρ1 W1 H1) : SL G σ1 ρ1 W1 H1 DD D where
  nx := fun ρ' n' σ' H' W' h r g' => x.nx ρ' n' σ' H' W' h r (g.trans g')
  rt := fun s n' v H' W' σ' ρ' h ok g' hs => x.rt s n' v H' W' σ' ρ' h ok (g.trans g') (hs.imp fun p z => z.elim (fun z => g.ow p z) fun z => .inr (g.free z))
  bk := fun ρ' n' σ' H' W' h r g' => x.bk ρ' n' σ' H' W' h r (g.trans g')
  ct := fun ρ' n' σ' H' W' h r g' => x.ct ρ' n' σ' H' W' h r (g.trans g')
  ex := x.ex.go g
def tsOf (G : Gx) (m : MS) : TS := fun D σ H => ∃ ρ n W DD, Rel G.K σ ρ n W H ∧ m DD ρ n ∧ SL G σ ρ W H DD D
section
variable {X : Cx} {G : Gx} {e a b : Expr} {m ma mb : M} {pos p : Pos} {es : List Expr} {st : Stmt} {rest sts sts' : List Stmt} {u w : MS}
def sNil : MS := fun DD ρ n => DD.nx ρ n
def sSeq (u w : MS) : MS := fun DD ρ n => u { DD with nx := w DD } ρ n
theorem s_nil : PSs X [] (tsOf G sNil) := pss_imp pss_nil fun D σ H ⟨ρ, n, W, DD, r, h, l⟩ => l.nx ρ n σ H W h r (Go.refl _ _ _ _)
theorem s_cons (h1 : PS X st (tsOf G u)) (h2 : PSs X rest (tsOf G w)) : PSs X (st :: rest) (tsOf G (sSeq u w)) := pss_imp (pss_cons h1 h2) fun D σ H ⟨ρ, n, W, DD, r, h, l⟩ =>
  ⟨ρ, n, W, { DD with nx := w DD }, r, h, ⟨fun ρ' n' σ' H' W' hb r' g' => ⟨ρ', n', W', DD, r', hb, l.go g'⟩, l.rt, l.bk, l.ct, l.ex⟩⟩
theorem s_one (h1 : PS X st (tsOf G u)) : PSs X [st] (tsOf G u) := pss_one h1
def sPass : MS := sNil
theorem s_pass : PS X (.Pass pos) (tsOf G sNil) := ps_imp ps_pass fun D σ H ⟨ρ, n, W, DD, r, h, l⟩ => l.nx ρ n σ H W h r (Go.refl _ _ _ _)
theorem s_doc {x j pos'} : PS X (.Expr (.Constant (.str x) j pos) pos') (tsOf G sNil) := ps_imp ps_doc fun D σ H ⟨ρ, n, W, DD, r, h, l⟩ => l.nx ρ n σ H W h r (Go.refl _ _ _ _)
def sBrk : MS := fun DD ρ n => DD.bk ρ n
def sCnt : MS := fun DD ρ n => DD.ct ρ n
theorem s_brk : PS X (.Break pos) (tsOf G sBrk) := ps_imp ps_break fun D σ H ⟨ρ, n, W, DD, r, h, l⟩ => l.bk ρ n σ H W h r (Go.refl _ _ _ _)
theorem s_cnt : PS X (.Continue pos) (tsOf G sCnt) := ps_imp ps_continue fun D σ H ⟨ρ, n, W, DD, r, h, l⟩ => l.ct ρ n σ H W h r (Go.refl _ _ _ _)
/-- code that is never come to -/
def sNev : MS := fun _ _ _ => False
theorem s_nev : PS X st (tsOf G sNev) := ps_imp ps_never fun D σ H ⟨ρ, n, W, DD, r, h, l⟩ => h.elim
theorem s_nevs : PSs X sts (tsOf G sNev) := pss_imp pss_never fun D σ H ⟨ρ, n, W, DD, r, h, l⟩ => h.elim
def sIf (t : M) (u w : MS) : MS := fun DD ρ n => t ρ n (fun s ρ1 n1 => toB s fun c => wIf c (u DD ρ1 n1) (w DD ρ1 n1)) DD.ex
theorem s_if (hc : PT X e (tTest (tOf G m))) (ha : PSs X sts (tsOf G u)) (hb : PSs X sts' (tsOf G w)) : PS X (.If e sts sts' pos) (tsOf G (sIf m u w)) := ps_imp (ps_if hc ha hb) fun D σ H ⟨ρ, n, W, DD, r, h, l⟩ =>
  of_test r l.ex h fun c ρ1 n1 H1 W1 h1 r1 g1 x1 => wIf.ite ⟨fun q => ⟨ρ1, n1, W1, DD, r1, h1.1 q, l.go g1.go⟩, fun q => ⟨ρ1, n1, W1, DD, r1, h1.2 q, l.go g1.go⟩⟩
def sRet (m : M) : MS := fun DD ρ n => m ρ n (fun s ρ1 n1 => DD.rt s ρ1 n1) DD.ex
theorem s_ret (ha : PE X e (tOf G m)) : PS X (.Return (some e) pos) (tsOf G (sRet m)) := ps_imp (ps_ret ha) fun D σ H ⟨ρ, n, W, DD, r, h, l⟩ =>
  ⟨ρ, n, W, _, _, r, h, fun s ρ1 n1 v H1 W1 h1 r1 g1 hs => l.rt s n1 v H1 W1 σ ρ1 h1 r1 g1.go (hs.rt fun p z => .inr z), l.ex⟩
def sRetN : MS := fun DD ρ n => DD.rt (.dat .non) ρ n
theorem s_retN : PS X (.Return none pos) (tsOf G sRetN) := ps_imp ps_retN fun D σ H ⟨ρ, n, W, DD, r, h, l⟩ => l.rt _ n _ H W σ ρ h r (Go.refl _ _ _ _) (show RT G.K W H _ .non (.dat .non) from DR.non)
def sExp (m : M) : MS := fun DD ρ n => m ρ n (fun _ ρ1 n1 => DD.nx ρ1 n1) DD.ex
theorem s_exp (ha : PE X e (tOf G m)) (hs : swapsWith e none pos.line X.env = pure false := by rfl) : PS X (.Expr e pos) (tsOf G (sExp m)) := ps_imp (ps_expr ha hs) fun D σ H ⟨ρ, n, W, DD, r, h, l⟩ =>
  ⟨ρ, n, W, _, _, r, h, fun s ρ1 n1 v H1 W1 h1 r1 g1 hs => l.nx ρ1 n1 σ H1 W1 h1 r1 g1.go, l.ex⟩

/-! ### stores -/
theorem own_set {σ : L2.St} {ρ : List S} {i : Nat} {v : V} {s : S} {q : Addr} (h : Own (σ.set i (some v)) (ρ.set i s) q) (len : ρ.length = σ.length) : (s.isOwn ∧ v = .ref q) ∨ (∃ (j : Nat) (t : S), i ≠ j ∧ ρ[j]? = some t ∧ t.isOwn ∧ σ[j]? = some (some (.ref q))) := by
  obtain ⟨j, t, h1, h2, h3⟩ := h
  by_cases hj : i = j
  · subst hj
    by_cases hi : i < ρ.length
    · rw [List.getElem?_set_self hi] at h1
      rw [List.getElem?_set_self (by omega)] at h3
      cases h1; cases h3
      exact .inl ⟨h2, rfl⟩
    · rw [List.getElem?_eq_none (by rw [List.length_set]; omega)] at h1; cases h1
  · rw [List.getElem?_set_ne hj] at h1
    rw [List.getElem?_set_ne hj] at h3
    exact .inr ⟨j, t, hj, h1, h2, h3⟩
theorem rel_set {K : PySem.W.Frag} {σ : L2.St} {ρ : List S} {n : Nat} {W : Wd} {H H0 : Hp} {i : Nat} {v : V} {s : S} (r : Rel K σ ρ n W H) (hs : RS K W H0 H v s) (hn : ∀ q, v = .ref q → s.isOwn → ¬ Own σ ρ q) : Rel K (σ.set i (some v)) (ρ.set i s) n W H := by
  refine ⟨r.ok, fun j t e => ?_, fun j k t t' q h1 h2 h3 h4 h5 h6 => ?_, by rw [List.length_set, List.length_set]; exact r.len⟩
  · by_cases hj : i = j
    · subst hj
      have hi : i < ρ.length := by
        have := (List.getElem?_eq_some_iff.mp e).1
        rw [List.length_set] at this; exact this
      rw [List.getElem?_set_self hi] at e
      rw [List.getElem?_set_self (by rw [← r.len]; exact hi)]
      cases e
      cases s with
      | un => trivial
      | dat d => exact ⟨v, rfl, hs⟩
      | own ds => obtain ⟨q, rfl, h1, h2, _⟩ := hs; exact ⟨q, rfl, h1, h2⟩
      | ownd ds => obtain ⟨q, rfl, h1, h2, _⟩ := hs; exact ⟨q, rfl, h1, h2⟩
    · rw [List.getElem?_set_ne hj] at e
      rw [List.getElem?_set_ne hj]
      exact r.sl j t e
  · by_cases hj : i = j
    · by_cases hk : i = k
      · rw [← hj, ← hk]
      · subst hj
        have hi : i < ρ.length := by
          have := (List.getElem?_eq_some_iff.mp h1).1
          rw [List.length_set] at this; exact this
        rw [List.getElem?_set_self hi] at h1
        rw [List.getElem?_set_self (by rw [← r.len]; exact hi)] at h5
        rw [List.getElem?_set_ne hk] at h2
        rw [List.getElem?_set_ne hk] at h6
        cases h1; cases h5
        exact absurd ⟨k, t', h2, h4, h6⟩ (hn q rfl h3)
    · by_cases hk : i = k
      · subst hk
        have hi : i < ρ.length := by
          have := (List.getElem?_eq_some_iff.mp h2).1
          rw [List.length_set] at this; exact this
        rw [List.getElem?_set_self hi] at h2
        rw [List.getElem?_set_self (by rw [← r.len]; exact hi)] at h6
        rw [List.getElem?_set_ne hj] at h1
        rw [List.getElem?_set_ne hj] at h5
        cases h2; cases h6
        exact absurd ⟨j, t, h1, h3, h5⟩ (hn q rfl h4)
      · rw [List.getElem?_set_ne hj] at h1 h5
        rw [List.getElem?_set_ne hk] at h2 h6
        exact r.inj j k t t' q h1 h2 h3 h4 h5 h6
/-- a name is stored behind its expression -/
theorem rel_store {K : PySem.W.Frag} {σ : L2.St} {ρ ρ1 : List S} {n n1 : Nat} {W W1 : Wd} {H H1 : Hp} {i : Nat} {v : V} {s : S} (r0 : Rel K σ ρ n W H) (r : Rel K σ ρ1 n1 W1 H1) (g : GoE σ ρ W H ρ1 W1 H1) (hs : RS K W1 H H1 v s) :
    Rel K (σ.set i (some v)) (ρ1.set i s) n1 W1 H1 ∧ Go σ ρ W H (σ.set i (some v)) (ρ1.set i s) W1 H1 := by
  have new : ∀ q, v = .ref q → s.isOwn → H q = none := fun q e o => by
    obtain ⟨q', e', _, _, h⟩ := hs.of_own o
    rw [e] at e'; cases e'; exact h
  have nown : ∀ q, v = .ref q → s.isOwn → ¬ Own σ ρ1 q := fun q e o z => by
    obtain ⟨_, u, hu⟩ := r0.own_out (g.ns q z)
    rw [new q e o] at hu; cases hu
  refine ⟨rel_set r hs nown, ⟨g.go.le, g.go.fr, g.go.tr, fun q hq => ?_⟩⟩
  rcases own_set hq r.len with ⟨o, e⟩ | ⟨j, t, _, h1, h2, h3⟩
  · exact .inr (new q e o)
  · exact .inl (g.ns q ⟨j, t, h1, h2, h3⟩)
def sAsg (i : Nat) (m : M) : MS := fun DD ρ n => m ρ n (fun s ρ1 n1 => DD.nx (ρ1.set i s) n1) DD.ex
theorem s_asg_read {i : Nat} {D : Ends} {σ : L2.St} {H : Hp} (h : tsOf G (sAsg i m) D σ H) : tAsg (tOf G m) (gName i) D σ H := by
  obtain ⟨ρ, n, W, DD, r, h, l⟩ := h
  exact ⟨ρ, n, W, _, _, r, h, fun s ρ1 n1 v H1 W1 h1 r1 g1 hs => l.nx _ n1 _ H1 W1 h1 (rel_store r r1 g1 hs).1 (rel_store r r1 g1 hs).2, l.ex⟩
theorem s_asg {tg : Expr} {i : Nat} (ha : PE X e (tOf G m)) (hg : PG X tg (gName i)) (hs : swapsWithSole [tg] e pos.line X.env = pure false := by rfl) (hw : swappedStores [tg] e X.env = pure none := by rfl)
    (h1 : (assignEach [tg] X.env).map (·.2) = [assign tg X.env] := by rfl) : PS X (.Assign [tg] e pos) (tsOf G (sAsg i m)) := ps_imp (ps_asg ha hg hs hw h1) fun _ _ _ h => s_asg_read h
/-- x = y, y the frame's own: it moves -/
def sMov (i j : Nat) : MS := fun DD ρ n => i ≠ j ∧ ∃ s, ρ[j]? = some s ∧ s.isOwn ∧ DD.nx ((ρ.set j .un).set i s) n
theorem rel_un {K : PySem.W.Frag} {σ : L2.St} {ρ : List S} {n : Nat} {W : Wd} {H : Hp} {j : Nat} (r : Rel K σ ρ n W H) : Rel K σ (ρ.set j .un) n W H ∧ ∀ q, Own σ (ρ.set j .un) q → ∃ (k : Nat) (t : S), j ≠ k ∧ ρ[k]? = some t ∧ t.isOwn ∧ σ[k]? = some (some (.ref q)) := by
  have key : ∀ (k : Nat) (t : S), (ρ.set j .un)[k]? = some t → t = .un ∨ (j ≠ k ∧ ρ[k]? = some t) := fun k t h => by
    by_cases hk : j = k
    · subst hk
      have hi : j < ρ.length := by
        have := (List.getElem?_eq_some_iff.mp h).1
        rw [List.length_set] at this; exact this
      rw [List.getElem?_set_self hi] at h; cases h; exact .inl rfl
    · rw [List.getElem?_set_ne hk] at h; exact .inr ⟨hk, h⟩
  refine ⟨⟨r.ok, fun k t h => ?_, fun k k' t t' q h1 h2 h3 h4 h5 h6 => ?_, by rw [List.length_set]; exact r.len⟩, fun q ⟨k, t, h1, h2, h3⟩ => ?_⟩
  · rcases key k t h with rfl | ⟨_, h⟩
    · trivial
    · exact r.sl k t h
  · rcases key k t h1 with rfl | ⟨_, h1⟩
    · exact h3.elim
    · rcases key k' t' h2 with rfl | ⟨_, h2⟩
      · exact h4.elim
      · exact r.inj k k' t t' q h1 h2 h3 h4 h5 h6
  · rcases key k t h1 with rfl | ⟨hk, h1⟩
    · exact h2.elim
    · exact ⟨k, t, hk, h1, h2, h3⟩
theorem s_mov {tg : Expr} {i j : Nat} (ha : PE X e (tVar j)) (hg : PG X tg (gName i)) (hs : swapsWithSole [tg] e pos.line X.env = pure false := by rfl) (hw : swappedStores [tg] e X.env = pure none := by rfl)
    (h1 : (assignEach [tg] X.env).map (·.2) = [assign tg X.env] := by rfl) : PS X (.Assign [tg] e pos) (tsOf G (sMov i j)) := ps_imp (ps_asg ha hg hs hw h1) fun D σ H ⟨ρ, n, W, DD, r, ⟨hij, s, e1, o, h⟩, l⟩ => by
  obtain ⟨p, e2, hc, ho⟩ := (r.sl j s e1).of_own o
  obtain ⟨r2, k2⟩ := rel_un (j := j) r
  have nown : ∀ q, V.ref p = .ref q → s.isOwn → ¬ Own σ (ρ.set j .un) q := fun q e _ z => by
    cases e
    obtain ⟨k, t, hk, h1, h2, h3⟩ := k2 p z
    exact hk (r.inj j k s t p e1 h1 o h2 e2 h3)
  have hs' : ∀ H0 : Hp, H0 p = none → RS G.K W H0 H (.ref p) s := fun H0 h0 => RS.mk_own rfl hc ho h0
  have r3 : Rel G.K (σ.set i (some (.ref p))) ((ρ.set j .un).set i s) n W H := rel_set r2 (hs' (fun _ => none) rfl) nown
  refine ⟨.ref p, e2, l.nx _ n _ H W h r3 ⟨Wle.refl W, fun x o' hx hox _ => ⟨hx, hox⟩, fun x o' hx => ⟨o', hx⟩, fun q hq => .inl ?_⟩⟩
  rcases own_set hq r2.len with ⟨_, e⟩ | ⟨k, t, hk, h1, h2, h3⟩
  · cases e; exact ⟨j, s, e1, o, e2⟩
  · obtain ⟨k', t', _, h1', h2', h3'⟩ := k2 q ⟨k, t, h1, h2, h3⟩
    exact ⟨k', t', h1', h2', h3'⟩
/-- return y, y the frame's own -/
def sRetV (j : Nat) : MS := fun DD ρ n => ∃ s, ρ[j]? = some s ∧ s.isOwn ∧ DD.rt s ρ n

/-! targets -/
/-- a target sets the slots ts to data -/
def tgOf (G : Gx) (ts : List Nat) (gt : D → List S → (List S → Prop) → Prop) : TG := fun v σ H Q => ∃ ρ n W d R, Rel G.K σ ρ n W H ∧ DR G.K W v d ∧ gt d ρ R ∧
  ∀ ρ' σ', R ρ' → Rel G.K σ' ρ' n W H → (∀ j : Nat, j ∉ ts → σ'[j]? = σ[j]? ∧ ρ'[j]? = ρ[j]?) → (∀ (j : Nat) (s : S), j ∈ ts → ρ'[j]? = some s → ¬ s.isOwn) → σ'.length = σ.length → Q σ' H
def gtN (i : Nat) : D → List S → (List S → Prop) → Prop := fun d ρ R => R (ρ.set i (.dat d))
theorem g_name_read {i : Nat} {v : V} {σ : L2.St} {H : Hp} {Q : L2.St → Hp → Prop} (h : tgOf G [i] (gtN i) v σ H Q) : gName i v σ H Q := by
  obtain ⟨ρ, n, W, d, R, r, hd, hg, k⟩ := h
  refine k _ _ hg (rel_set (H0 := H) (s := .dat d) r hd fun _ _ o => o.elim) (fun j hj => ?_) (fun j s hj e o => ?_) (by rw [List.length_set])
  · have : i ≠ j := fun z => hj (by rw [z]; exact List.mem_singleton.mpr rfl)
    exact ⟨List.getElem?_set_ne this, List.getElem?_set_ne this⟩
  · have := List.mem_singleton.mp hj
    subst this
    have hi : j < ρ.length := by
      have := (List.getElem?_eq_some_iff.mp e).1
      rw [List.length_set] at this; exact this
    rw [List.getElem?_set_self hi] at e; cases e; exact o
theorem pg_imp {X : Cx} {e : Expr} {t t' : TG} (h : PG X e t) (k : ∀ v σ H Q, t' v σ H Q → t v σ H Q) : PG X e t' := ⟨fun pins s σ H v u Q I r q => h.run pins s σ H v u Q I r (k v σ H Q q)⟩
theorem g_name {tg : Expr} {i : Nat} (h : PG X tg (gName i)) : PG X tg (tgOf G [i] (gtN i)) := pg_imp h fun _ _ _ _ h => g_name_read h
/-- several targets -/
def tgsOf (G : Gx) (ts : List Nat) (gt : List D → List S → (List S → Prop) → Prop) : TGs := fun vs σ H Q => ∃ ρ n W ds R, Rel G.K σ ρ n W H ∧ DRs G.K W vs ds ∧ gt ds ρ R ∧
  ∀ ρ' σ', R ρ' → Rel G.K σ' ρ' n W H → (∀ j : Nat, j ∉ ts → σ'[j]? = σ[j]? ∧ ρ'[j]? = ρ[j]?) → (∀ (j : Nat) (s : S), j ∈ ts → ρ'[j]? = some s → ¬ s.isOwn) → σ'.length = σ.length → Q σ' H
def gtNil : List D → List S → (List S → Prop) → Prop := fun ds ρ R => ds = [] ∧ R ρ
def gtCons (t : D → List S → (List S → Prop) → Prop) (u : List D → List S → (List S → Prop) → Prop) : List D → List S → (List S → Prop) → Prop := fun ds ρ R => match ds with
  | d :: ds => t d ρ fun ρ1 => u ds ρ1 R
  | [] => False
theorem g_nil : PGs X [] (tgsOf G [] gtNil) := ⟨fun pins s σ H vs us Q I r h => (pgs_nil (X := X)).run pins s σ H vs us Q I r (by
  obtain ⟨ρ, n, W, ds, R, rl, hd, ⟨e, hg⟩, k⟩ := h
  subst e
  cases hd
  exact ⟨rfl, k ρ σ hg rl (fun _ _ => ⟨rfl, rfl⟩) (fun _ _ h => nomatch h) rfl⟩)⟩
theorem g_cons {ts ts' : List Nat} {t : D → List S → (List S → Prop) → Prop} {u : List D → List S → (List S → Prop) → Prop} (h1 : PG X e (tgOf G ts t)) (h2 : PGs X es (tgsOf G ts' u))
    (hs : (assignEach (e :: es) X.env).map (·.2) = assign e X.env :: (assignEach es X.env).map (·.2) := by rfl) : PGs X (e :: es) (tgsOf G (ts ++ ts') (gtCons t u)) := ⟨fun pins s σ H vs us Q I r h => (pgs_cons h1 h2 hs).run pins s σ H vs us Q I r (by
  obtain ⟨ρ, n, W, ds, R, rl, hd, hg, k⟩ := h
  cases hd with
  | nil => exact hg.elim
  | @cons v vs d ds h3 h4 =>
    refine ⟨v, vs, rfl, ρ, n, W, d, _, rl, h3, hg, fun ρ1 σ1 q1 r1 f1 o1 l1 => ⟨ρ1, n, W, ds, R, r1, h4, q1, fun ρ2 σ2 q2 r2 f2 o2 l2 => k ρ2 σ2 q2 r2 (fun j hj => ?_) (fun j s hj e => ?_) (l2.trans l1)⟩⟩
    · have hj1 : j ∉ ts := fun z => hj (List.mem_append_left _ z)
      have hj2 : j ∉ ts' := fun z => hj (List.mem_append_right _ z)
      exact ⟨(f2 j hj2).1.trans (f1 j hj1).1, (f2 j hj2).2.trans (f1 j hj1).2⟩
    · by_cases h2 : j ∈ ts'
      · exact o2 j s h2 e
      · rw [(f2 j h2).2] at e
        exact o1 j s ((List.mem_append.mp hj).resolve_right h2) e)⟩
def gtT (k : Nat) (u : List D → List S → (List S → Prop) → Prop) : D → List S → (List S → Prop) → Prop := fun d ρ R => match d with
  | .tup ds => ds.length = k ∧ u ds ρ R
  | _ => False
theorem g_tup (c : Ctx X G) {kk : Nat} {ts : List Nat} {u : List D → List S → (List S → Prop) → Prop} {k : Nat} (h : PGs X es (tgsOf G ts u)) (hn : (assignEach es X.env).length = k := by rfl) (hst : (assignEach es X.env).findIdx? (·.1) = none := by rfl) :
    PG X (.Tuple es kk pos) (tgOf G ts (gtT k u)) := pg_imp (pg_tup c.calm h hn hst) fun v σ H Q h => by
  obtain ⟨ρ, n, W, d, R, rl, hd, hg, kq⟩ := h
  unfold gtT at hg
  split at hg
  · cases hd with
    | tup h1 h2 =>
      have q := sqt_H rl.ok h1
      rw [← c.K] at q
      exact ⟨_, _, rfl, q, by rw [h2.length]; exact hg.1, ρ, n, W, _, R, rl, h2, hg.2, kq⟩
  · exact hg.elim
theorem go_tg {σ σ' : L2.St} {ρ ρ' : List S} {W : Wd} {H : Hp} {ts : List Nat} (f : ∀ j : Nat, j ∉ ts → σ'[j]? = σ[j]? ∧ ρ'[j]? = ρ[j]?) (o : ∀ (j : Nat) (s : S), j ∈ ts → ρ'[j]? = some s → ¬ s.isOwn) : (∀ q, Own σ' ρ' q → Own σ ρ q) ∧ Go σ ρ W H σ' ρ' W H := by
  have key : ∀ q, Own σ' ρ' q → Own σ ρ q := fun q ⟨j, s, h1, h2, h3⟩ => by
    by_cases hj : j ∈ ts
    · exact absurd h2 (o j s hj h1)
    · rw [(f j hj).1] at h3
      rw [(f j hj).2] at h1
      exact ⟨j, s, h1, h2, h3⟩
  exact ⟨key, Wle.refl W, fun _ _ h ho _ => ⟨h, ho⟩, fun _ u h => ⟨u, h⟩, fun q h => .inl (key q h)⟩
/-- target = data -/
def sAsgT (gt : D → List S → (List S → Prop) → Prop) (m : M) : MS := fun DD ρ n => m ρ n (fun s ρ1 n1 => toD s fun d => gt d ρ1 fun ρ2 => DD.nx ρ2 n1) DD.ex
theorem s_asgT {tg : Expr} {ts : List Nat} {gt : D → List S → (List S → Prop) → Prop} (ha : PE X e (tOf G m)) (hg : PG X tg (tgOf G ts gt)) (hs : swapsWithSole [tg] e pos.line X.env = pure false := by rfl) (hw : swappedStores [tg] e X.env = pure none := by rfl)
    (h1 : (assignEach [tg] X.env).map (·.2) = [assign tg X.env] := by rfl) : PS X (.Assign [tg] e pos) (tsOf G (sAsgT gt m)) := ps_imp (ps_asg ha hg hs hw h1) fun D σ H ⟨ρ, n, W, DD, r, h, l⟩ =>
  of_bindD r l.ex h fun d ρ1 n1 v H1 W1 h1 r1 g1 d1 x1 => ⟨ρ1, n1, W1, d, _, r1, d1, h1, fun ρ2 σ2 q2 r2 f2 o2 l2 => l.nx ρ2 n1 σ2 H1 W1 q2 r2 (g1.go.trans (go_tg f2 o2).2)⟩
end
end PL

set_option Elab.async false
set_option linter.all false
set_option maxRecDepth 100000
set_option maxHeartbeats 4000000
namespace PL
open PySem L2
section
variable {X : Cx} {G : Gx} {e a b : Expr} {m ma mb : M} {pos p : Pos} {es : List Expr} {st : Stmt} {rest sts sts' : List Stmt} {u w : MS}

/-! ### x, y, .. = a, b, .. -/
/-- q is the address of an own one among new results -/
def OwnR (vs : List V) (ss : List S) (q : Addr) : Prop := ∃ (j : Nat) (s : S), ss[j]? = some s ∧ s.isOwn ∧ vs[j]? = some (.ref q)
inductive RSs (K : PySem.W.Frag) (W : Wd) (H0 H : Hp) : List V → List S → Prop where
  | nil : RSs K W H0 H [] []
  | cons {v : V} {s : S} {vs : List V} {ss : List S} : RS K W H0 H v s → (s.isOwn → ∀ q, v = .ref q → ¬ OwnR vs ss q) → RSs K W H0 H vs ss → RSs K W H0 H (v :: vs) (s :: ss)
theorem RSs.length {K : PySem.W.Frag} {W : Wd} {H0 H : Hp} : ∀ {vs : List V} {ss : List S}, RSs K W H0 H vs ss → vs.length = ss.length
  | _, _, .nil => rfl
  | _, _, .cons _ _ r => by rw [List.length_cons, List.length_cons, RSs.length r]
theorem RSs.back {K : PySem.W.Frag} {W : Wd} {H0 H1 H : Hp} (b : ∀ p, H1 p = none → H0 p = none) : ∀ {vs : List V} {ss : List S}, RSs K W H1 H vs ss → RSs K W H0 H vs ss
  | _, _, .nil => .nil
  | _, _, .cons h k r => .cons (h.back b) k (RSs.back b r)
theorem RSs.own {K : PySem.W.Frag} {W : Wd} {H0 H : Hp} {q : Addr} : ∀ {vs : List V} {ss : List S}, RSs K W H0 H vs ss → OwnR vs ss q → H0 q = none
  | _, _, .nil, ⟨j, s, h, _⟩ => by simp at h
  | v :: vs, s :: ss, .cons h _ r, ⟨0, t, h1, h2, h3⟩ => by
    have e1 : s = t := by simpa using h1
    have e3 : v = .ref q := by simpa using h3
    subst e1
    obtain ⟨q', e', _, _, hn⟩ := h.of_own h2
    rw [e3] at e'; cases e'; exact hn
  | v :: vs, s :: ss, .cons _ _ r, ⟨j + 1, t, h1, h2, h3⟩ => RSs.own r ⟨j, t, by simpa using h1, h2, by simpa using h3⟩
abbrev MO := List S → Nat → (List S → List S → Nat → Prop) → XR → Prop
def toOfs (G : Gx) (m : MO) : TA := fun σ H Q => ∃ ρ n W R RX, Rel G.K σ ρ n W H ∧ m ρ n R RX ∧ (∀ ss ρ' n' vs H' W', R ss ρ' n' → Rel G.K σ ρ' n' W' H' → GoE σ ρ W H ρ' W' H' → RSs G.K W' H H' vs ss → Q vs H') ∧ XL G σ ρ W H RX
def moNil : MO := fun ρ n R _ => R [] ρ n
def moCons (ma : M) (m : MO) : MO := fun ρ n R RX => ma ρ n (fun s ρ1 n1 => m ρ1 n1 (fun ss ρ2 n2 => R (s :: ss) ρ2 n2) RX) RX
theorem mo_nil : PA X [] (toOfs G moNil) := pa_imp pa_nil fun σ H Q ⟨ρ, n, W, R, RX, r, h, l, x⟩ => l [] ρ n [] H W h r (GoE.refl _ _ _ _) .nil
theorem rs_keep {K : PySem.W.Frag} {σ : L2.St} {ρ ρ1 ρ2 : List S} {n : Nat} {W W1 W2 : Wd} {H H1 H2 : Hp} {v : V} {s : S} (r : Rel K σ ρ n W H) (g1 : GoE σ ρ W H ρ1 W1 H1) (hs : RS K W1 H H1 v s) (g2 : GoE σ ρ1 W1 H1 ρ2 W2 H2) : RS K W2 H H2 v s := by
  cases s with
  | un => exact hs
  | dat d => exact DR.mono g2.go.le hs
  | own ds =>
    obtain ⟨q, rfl, hc, ho, hn⟩ := hs
    obtain ⟨o, hq⟩ := hc.some
    have nown : ¬ Own σ ρ1 q := fun z => by
      obtain ⟨_, o2, e⟩ := r.own_out (g1.ns q z)
      rw [hn] at e; cases e
    obtain ⟨e1, e2⟩ := g2.go.fr q o hq ho nown
    exact ⟨q, rfl, hc.mono g2.go.le (e1.trans hq.symm), e2, hn⟩
  | ownd ds =>
    obtain ⟨q, rfl, hc, ho, hn⟩ := hs
    obtain ⟨o, hq⟩ := hc.some
    have nown : ¬ Own σ ρ1 q := fun z => by
      obtain ⟨_, o2, e⟩ := r.own_out (g1.ns q z)
      rw [hn] at e; cases e
    obtain ⟨e1, e2⟩ := g2.go.fr q o hq ho nown
    exact ⟨q, rfl, hc.mono g2.go.le (e1.trans hq.symm), e2, hn⟩
theorem mo_cons {m : MO} (ha : PE X e (tOf G ma)) (hr : PA X es (toOfs G m)) (hs : starEach (e :: es) X.env = (false, eval e X.env) :: starEach es X.env := by rfl) : PA X (e :: es) (toOfs G (moCons ma m)) := pa_imp (pa_cons ha hr hs) fun σ H Q ⟨ρ, n, W, R, RX, r, h, l, x⟩ =>
  of_bind r x h fun s ρ1 n1 v H1 W1 h1 r1 g1 s1 x1 => ⟨ρ1, n1, W1, _, RX, r1, h1, fun ss ρ2 n2 vs H2 W2 h2 r2 g2 s2 => l (s :: ss) ρ2 n2 (v :: vs) H2 W2 h2 r2 (g1.trans g2) (.cons (rs_keep r g1 s1 g2) (fun o q e z => by
    obtain ⟨q', e', hc, _, _⟩ := s1.of_own o
    rw [e] at e'; cases e'
    obtain ⟨u, hu⟩ := hc.some
    rw [s2.own z] at hu; cases hu) (s2.back fun q => g1.go.free)), x1⟩
def setV (σ : L2.St) : List Nat → List V → L2.St
  | i :: is, v :: vs => setV (σ.set i (some v)) is vs
  | _, _ => σ
def setS (ρ : List S) : List Nat → List S → List S
  | i :: is, s :: ss => setS (ρ.set i s) is ss
  | _, _ => ρ
theorem rel_sets {K : PySem.W.Frag} {W : Wd} {H0 H : Hp} {n : Nat} : ∀ {is : List Nat} {vs : List V} {ss : List S} {σ : L2.St} {ρ : List S}, Rel K σ ρ n W H → RSs K W H0 H vs ss → (∀ q, Own σ ρ q → ¬ OwnR vs ss q) → vs.length = is.length →
    Rel K (setV σ is vs) (setS ρ is ss) n W H ∧ ∀ q, Own (setV σ is vs) (setS ρ is ss) q → Own σ ρ q ∨ H0 q = none
  | [], [], [], σ, ρ, r, _, _, _ => ⟨r, fun q h => .inl h⟩
  | i :: is, v :: vs, s :: ss, σ, ρ, r, .cons h1 h2 h3, hn, hl => by
    have r1 : Rel K (σ.set i (some v)) (ρ.set i s) n W H := rel_set r h1 fun q e o z => hn q z ⟨0, s, rfl, o, by rw [e]; rfl⟩
    obtain ⟨r2, o2⟩ := rel_sets (is := is) r1 h3 (fun q hq => by
      rcases own_set hq r.len with ⟨o, e⟩ | ⟨j, t, _, a1, a2, a3⟩
      · exact h2 o q e
      · exact fun ⟨j', t', b1, b2, b3⟩ => hn q ⟨j, t, a1, a2, a3⟩ ⟨j' + 1, t', by simpa using b1, b2, by simpa using b3⟩) (by simpa using hl)
    refine ⟨r2, fun q hq => ?_⟩
    rcases o2 q hq with z | z
    · rcases own_set z r.len with ⟨o, e⟩ | ⟨j, t, _, a1, a2, a3⟩
      · obtain ⟨q', e', _, _, hn'⟩ := h1.of_own o
        rw [e] at e'; cases e'
        exact .inr hn'
      · exact .inl ⟨j, t, a1, a2, a3⟩
    · exact .inr z
  | [], _ :: _, _, _, _, _, _, _, hl => by simp at hl
  | _ :: _, [], _, _, _, _, _, _, hl => by simp at hl
  | [], [], _ :: _, _, _, _, h, _, _ => by cases h
  | _ :: _, _ :: _, [], _, _, _, h, _, _ => by cases h
def sParN (is : List Nat) (m : MO) : MS := fun DD ρ n => m ρ n (fun ss ρ1 n1 => ss.length = is.length ∧ DD.nx (setS ρ1 is ss) n1) DD.ex
def gNs : List Nat → TGs
  | [] => gNil
  | i :: is => gCons (gName i) (gNs is)
theorem gNs_of {H : Hp} {Q : L2.St → Hp → Prop} : ∀ {is : List Nat} {vs : List V} {σ : L2.St}, vs.length = is.length → Q (setV σ is vs) H → gNs is vs σ H Q
  | [], [], σ, _, h => ⟨rfl, h⟩
  | i :: is, v :: vs, σ, hl, h => ⟨v, vs, rfl, gNs_of (is := is) (by simpa using hl) h⟩
  | [], _ :: _, _, hl, _ => by simp at hl
  | _ :: _, [], _, hl, _ => by simp at hl
theorem par_end {K : PySem.W.Frag} {σ : L2.St} {ρ ρ1 : List S} {n n1 : Nat} {W W1 : Wd} {H H1 H2 : Hp} {vs : List V} {ss : List S} {is : List Nat} (r : Rel K σ ρ n W H) (g : GoE σ ρ W H ρ1 W1 H1) (r1 : Rel K σ ρ1 n1 W1 H1) (h : RSs K W1 H H1 vs ss) (hl : vs.length = is.length)
    (k : ∀ a o, H1 a = some o → H2 a = some o) (al : Al W1 H1 n1 W1 H2) : Rel K (setV σ is vs) (setS ρ1 is ss) n1 W1 H2 ∧ Go σ ρ W H (setV σ is vs) (setS ρ1 is ss) W1 H2 := by
  obtain ⟨r2, o2⟩ := rel_sets (is := is) r1 h (fun q hq z => by
    obtain ⟨_, u, hu⟩ := r.own_out (g.ns q hq)
    rw [h.own z] at hu; cases hu) hl
  have r3 := rel_al r2 al
  refine ⟨r3.1, (g.go.trans (rel_al r1 al).2.go).le, fun a o ha ho hn => ?_, fun a o ha => ?_, fun q hq => ?_⟩
  · obtain ⟨e1, e2⟩ := g.go.fr a o ha ho hn
    exact ⟨k a o e1, e2⟩
  · obtain ⟨o1, e1⟩ := g.go.tr a o ha
    exact ⟨o1, k a o1 e1⟩
  · rcases o2 q hq with z | z
    · exact .inl (g.ns q z)
    · exact .inr z
theorem s_par2 {i j : Nat} {m : MO} (hps : PS X st (tPar i j (toOfs G m))) : PS X st (tsOf G (sParN [i, j] m)) := ps_imp hps fun D σ H ⟨ρ, n, W, DD, r, h, l⟩ =>
  ⟨ρ, n, W, _, _, r, h, fun ss ρ1 n1 vs H1 W1 h1 r1 g1 s1 => by
    obtain ⟨hl, hd⟩ := h1
    have hl' : vs.length = [i, j].length := by rw [s1.length]; exact hl
    obtain ⟨r2, g2⟩ := par_end r g1 r1 s1 hl' (fun _ _ z => z) (Al.refl r1.ok)
    match vs, hl', r2, g2 with
    | [v, w], _, r2, g2 => exact ⟨v, w, rfl, l.nx _ n1 _ H1 W1 hd r2 g2⟩, l.ex⟩
theorem s_par3 {i j k : Nat} {m : MO} (hps : PS X st (tPar3 i j k (toOfs G m))) : PS X st (tsOf G (sParN [i, j, k] m)) := ps_imp hps fun D σ H ⟨ρ, n, W, DD, r, h, l⟩ =>
  ⟨ρ, n, W, _, _, r, h, fun ss ρ1 n1 vs H1 W1 h1 r1 g1 s1 => by
    obtain ⟨hl, hd⟩ := h1
    have hl' : vs.length = [i, j, k].length := by rw [s1.length]; exact hl
    obtain ⟨r2, g2⟩ := par_end r g1 r1 s1 hl' (fun _ _ z => z) (Al.refl r1.ok)
    match vs, hl', r2, g2 with
    | [u, v, w], _, r2, g2 => exact ⟨u, v, w, rfl, l.nx _ n1 _ H1 W1 hd r2 g2⟩, l.ex⟩
theorem s_parT {is : List Nat} {m : MO} {k : Nat} (hk : k = is.length ∧ is.length ≤ 1000) (hps : PS X st (tAsg (tTup (toOfs G m)) (gTup X.K k (gNs is)))) : PS X st (tsOf G (sParN is m)) := ps_imp hps fun D σ H ⟨ρ, n, W, DD, r, h, l⟩ =>
  ⟨ρ, n, W, _, _, r, h, fun ss ρ1 n1 vs H1 W1 h1 r1 g1 s1 => by
    obtain ⟨hl, hd⟩ := h1
    have hl' : vs.length = is.length := by rw [s1.length]; exact hl
    refine ⟨sq_line (by omega), fun t nt => ?_⟩
    have al := Al.lst r1.ok nt (.tup vs)
    obtain ⟨r2, g2⟩ := par_end r g1 r1 s1 hl' al.kp al
    exact ⟨t, vs, rfl, .inl (.inl upd_same), by rw [hl', hk.1], gNs_of hl' (l.nx _ n1 _ _ W1 hd r2 g2)⟩, l.ex⟩
theorem g_ns_nil : PGs X [] (gNs []) := pgs_nil
theorem g_ns_cons {i : Nat} {is : List Nat} (h1 : PG X e (gName i)) (h2 : PGs X es (gNs is)) (hs : (assignEach (e :: es) X.env).map (·.2) = assign e X.env :: (assignEach es X.env).map (·.2) := by rfl) : PGs X (e :: es) (gNs (i :: is)) := pgs_cons h1 h2 hs
end
end PL

set_option Elab.async false
set_option linter.all false
set_option maxRecDepth 100000
set_option maxHeartbeats 4000000
namespace PL
open PySem L2
section
variable {X : Cx} {G : Gx} {e a b : Expr} {m ma mb : M} {pos p : Pos} {es : List Expr} {st : Stmt} {rest sts sts' : List Stmt} {u w : MS}

/-! ### own containers change -/
theorem rel_mut {K : PySem.W.Frag} {σ : L2.St} {ρ : List S} {n : Nat} {W : Wd} {H : Hp} {i : Nat} {s s' : S} {q : Addr} {o : HO} (r : Rel K σ ρ n W H) (e1 : ρ[i]? = some s) (o1 : s.isOwn) (e2 : σ[i]? = some (some (.ref q))) (hc : CnAt K W (upd H q o) q s') :
    Rel K σ (ρ.set i s') n W (upd H q o) ∧ Go σ ρ W H σ (ρ.set i s') W (upd H q o) := by
  obtain ⟨q', e', hq, ho⟩ := (r.sl i s e1).of_own o1
  rw [e2] at e'; cases e'
  have hi : i < ρ.length := (List.getElem?_eq_some_iff.mp e1).1
  have key : ∀ (k : Nat) (t : S), (ρ.set i s')[k]? = some t → (i = k ∧ t = s') ∨ (i ≠ k ∧ ρ[k]? = some t) := fun k t h => by
    by_cases hk : i = k
    · subst hk
      rw [List.getElem?_set_self hi] at h; cases h; exact .inl ⟨rfl, rfl⟩
    · rw [List.getElem?_set_ne hk] at h; exact .inr ⟨hk, h⟩
  have old : ∀ x, Own σ (ρ.set i s') x → Own σ ρ x := fun x ⟨k, t, h1, h2, h3⟩ => by
    rcases key k t h1 with ⟨rfl, rfl⟩ | ⟨_, h1⟩
    · exact ⟨i, s, e1, o1, h3⟩
    · exact ⟨k, t, h1, h2, h3⟩
  refine ⟨⟨⟨fun x o' hx => ?_, fun x hx => ⟨(r.ok.pot x hx).1, ?_⟩⟩, fun k t h => ?_, fun k k' t t' x h1 h2 h3 h4 h5 h6 => ?_, by rw [List.length_set]; exact r.len⟩, Wle.refl W, fun x o' hx hox hn => ?_, fun x o' hx => ?_, fun x hx => .inl (old x hx)⟩
  · have n : x ≠ q := fun z => by rw [z, ho.1] at hx; cases hx
    rw [upd_ne n]; exact r.ok.frz x o' hx
  · obtain ⟨a, b, c, h, t⟩ := (r.ok.pot x hx).2
    have n : x ≠ q := fun z => ho.2 (z ▸ hx)
    exact ⟨a, b, c, by rw [upd_ne n]; exact h, t⟩
  · rcases key k t h with ⟨rfl, rfl⟩ | ⟨hk, h⟩
    · exact SlotOk.mk_own e2 hc ho
    · have x := r.sl k t h
      cases t with
      | un => trivial
      | dat d => exact x
      | own ds =>
        obtain ⟨y, h1, h2, h3⟩ := x
        have n : y ≠ q := fun z => hk (r.inj i k s _ q e1 h o1 trivial e2 (z ▸ h1))
        exact ⟨y, h1, h2.mono (Wle.refl W) (upd_ne n), h3⟩
      | ownd ds =>
        obtain ⟨y, h1, h2, h3⟩ := x
        have n : y ≠ q := fun z => hk (r.inj i k s _ q e1 h o1 trivial e2 (z ▸ h1))
        exact ⟨y, h1, h2.mono (Wle.refl W) (upd_ne n), h3⟩
  · have back : ∀ (k : Nat) (t : S), (ρ.set i s')[k]? = some t → t.isOwn → ∃ t', ρ[k]? = some t' ∧ t'.isOwn := fun k t h o => by
      rcases key k t h with ⟨rfl, rfl⟩ | ⟨_, h⟩
      · exact ⟨s, e1, o1⟩
      · exact ⟨t, h, o⟩
    obtain ⟨t1, a1, b1⟩ := back k t h1 h3
    obtain ⟨t2, a2, b2⟩ := back k' t' h2 h4
    exact r.inj k k' t1 t2 x a1 a2 b1 b2 h5 h6
  · have n : x ≠ q := fun z => hn ⟨i, s, e1, o1, z ▸ e2⟩
    exact ⟨by rw [upd_ne n]; exact hx, hox⟩
  · by_cases z : x = q
    · subst z; exact ⟨o, upd_same⟩
    · exact ⟨o', by rw [upd_ne z]; exact hx⟩
theorem small_line {n : Nat} (h : n < 1000000) : n < sizeLine := Nat.lt_of_lt_of_le h (by decide)
/-- xs.append(e) -/
def sApp (i : Nat) (m : M) : MS := fun DD ρ n => (∃ ds, ρ[i]? = some (.own ds)) ∧ m ρ n (fun s ρ1 n1 => toD s fun d => match ρ1[i]? with
  | some (.own ds) => ds.length < 1000000 ∧ DD.nx (ρ1.set i (.own (ds ++ [d]))) n1
  | _ => False) DD.ex
theorem s_app {K : PySem.W.Frag} {i : Nat} (hps : PS X st (tDrop (tBM K "list" rAppend (tVar i) (tCons (tOf G m) tNil)))) : PS X st (tsOf G (sApp i m)) := ps_imp hps fun D σ H ⟨ρ, n, W, DD, r, ⟨⟨d0, e0⟩, h⟩, l⟩ => by
  obtain ⟨q, e2, ⟨vs0, hq0, _⟩, _⟩ := r.sl i _ e0
  refine ⟨.ref q, e2, .inl ⟨rfl, _, .inl (.inl hq0)⟩, ?_⟩
  refine of_bindD r l.ex h fun d ρ1 n1 v H1 W1 h1 r1 g1 d1 x1 => ?_
  split at h1
  · rename_i ds e1
    obtain ⟨q', e2', ⟨vs, hq, hv⟩, ho⟩ := r1.sl i _ e1
    rw [e2] at e2'; cases e2'
    refine ⟨q, vs, v, rfl, rfl, hq, by rw [hv.length]; exact small_line h1.1, ?_⟩
    obtain ⟨r2, g2⟩ := rel_mut (s' := .own (ds ++ [d])) r1 e1 trivial e2 ⟨vs ++ [v], upd_same, hv.append (.cons d1 .nil)⟩
    exact l.nx _ n1 σ _ W1 h1.2 r2 (g1.go.trans g2)
  · exact h1.elim
/-- xs.extend(ys), ys a new list -/
def sExt (i : Nat) (m : M) : MS := fun DD ρ n => (∃ ds, ρ[i]? = some (.own ds)) ∧ m ρ n (fun s ρ1 n1 => match s, ρ1[i]? with
  | .own fs, some (.own ds) => ds.length + fs.length ≤ 1000000 ∧ DD.nx (ρ1.set i (.own (ds ++ fs))) n1
  | _, _ => False) DD.ex
theorem s_ext {K : PySem.W.Frag} {i : Nat} (hps : PS X st (tDrop (tBM K "list" rExtend (tVar i) (tCons (tOf G m) tNil)))) : PS X st (tsOf G (sExt i m)) := ps_imp hps fun D σ H ⟨ρ, n, W, DD, r, ⟨⟨d0, e0⟩, h⟩, l⟩ => by
  obtain ⟨q, e2, ⟨vs0, hq0, _⟩, _⟩ := r.sl i _ e0
  refine ⟨.ref q, e2, .inl ⟨rfl, _, .inl (.inl hq0)⟩, ?_⟩
  refine of_bind r l.ex h fun s ρ1 n1 v H1 W1 h1 r1 g1 s1 x1 => ?_
  split at h1
  · rename_i fs ds e1
    obtain ⟨q', e2', ⟨vs, hq, hv⟩, ho⟩ := r1.sl i _ e1
    rw [e2] at e2'; cases e2'
    obtain ⟨b, rfl, ⟨zs, hb, hz⟩, _, _⟩ := s1
    refine ⟨q, b, vs, zs, rfl, rfl, hq, hb, by rw [hv.length, hz.length]; exact sq_line h1.1, ?_⟩
    obtain ⟨r2, g2⟩ := rel_mut (s' := .own (ds ++ fs)) r1 e1 trivial e2 ⟨vs ++ zs, upd_same, hv.append hz⟩
    exact l.nx _ n1 σ _ W1 h1.2 r2 (g1.go.trans g2)
  · exact h1.elim
/-- xs[k] = e -/
def sSetI (i : Nat) (mv mk : M) : MS := fun DD ρ n => mv ρ n (fun s ρ1 n1 => toD s fun d => (∃ ds, ρ1[i]? = some (.own ds)) ∧ mk ρ1 n1 (fun t ρ2 n2 => toD t fun k => match ρ2[i]?, k with
  | some (.own ds), .int k => ∃ j, ixN ds.length k = some j ∧ DD.nx (ρ2.set i (.own (ds.set j d))) n2
  | _, _ => False) DD.ex) DD.ex
theorem s_setI {i : Nat} {mv mk : M} (hps : PS X st (tAsg (tOf G mv) (L2.gSub (tVar i) (tOf G mk) rSetL))) : PS X st (tsOf G (sSetI i mv mk)) := ps_imp hps fun D σ H ⟨ρ, n, W, DD, r, h, l⟩ => by
  refine of_bindD r l.ex h fun d ρ1 n1 v H1 W1 h1 r1 g1 d1 x1 => ?_
  obtain ⟨⟨k0, e0⟩, h1⟩ := h1
  obtain ⟨q, e2, _⟩ := r1.sl i _ e0
  refine ⟨.ref q, e2, of_bindD r1 x1 h1 fun kd ρ2 n2 y H2 W2 h2 r2 g2 d2 x2 => ?_⟩
  split at h2
  · rename_i ds k e1
    obtain ⟨j, hj, hR⟩ := h2
    obtain ⟨q', e2', ⟨vs, hq, hv⟩, _⟩ := r2.sl i _ e1
    rw [e2] at e2'; cases e2'
    cases d2
    obtain ⟨r3, g3⟩ := rel_mut (s' := .own (ds.set j d)) (o := .lst (vs.set j v)) r2 e1 trivial e2 ⟨vs.set j v, upd_same, hv.set (d1.mono g2.go.le) j⟩
    exact ⟨q, vs, k, j, rfl, rfl, hq, by rw [hv.length]; exact hj, l.nx _ n2 σ _ W2 hR r3 ((g1.trans g2).go.trans g3)⟩
  · exact h2.elim
/-! dicts of the frame's own -/
def keyD : D → Option Key
  | .int i => some (.inl i)
  | .str x => some (.inr x)
  | _ => none
theorem DR.key {K : PySem.W.Frag} {W : Wd} {v : V} {d : D} {k : Key} (h : DR K W v d) (e : keyD d = some k) : v = kV k := by
  cases h <;> first | (cases e; rfl) | cases e
def lookD (kvs : List (Key × D)) (k : Key) : Option D := (kvs.find? fun kv => decide (kv.1 = k)).map (·.2)
def putD (kvs : List (Key × D)) (k : Key) (v : D) : List (Key × D) :=
  if (kvs.any fun kv => decide (kv.1 = k)) = true then kvs.map (fun kv => if kv.1 = k then (kv.1, v) else kv) else kvs ++ [(k, v)]
theorem KR.look {K : PySem.W.Frag} {W : Wd} {k : Key} : ∀ {ks : List (Key × V)} {kvs : List (Key × D)}, KR K W ks kvs → match valV ks k, lookD kvs k with | some v, some d => DR K W v d | none, none => True | _, _ => False
  | _, _, .nil => trivial
  | (k1, v) :: ks, (k2, d) :: kvs, .cons ⟨e, h⟩ r => by
    have e' : k1 = k2 := e
    subst e'
    by_cases z : k1 = k
    · have a1 : valV ((k1, v) :: ks) k = some v := valV_pos (p := (k1, v)) z
      have a2 : lookD ((k1, d) :: kvs) k = some d := by simp [lookD, List.find?_cons, z]
      rw [a1, a2]; exact h
    · have a1 : valV ((k1, v) :: ks) k = valV ks k := by simp [valV, List.find?_cons, z]
      have a2 : lookD ((k1, d) :: kvs) k = lookD kvs k := by simp [lookD, List.find?_cons, z]
      rw [a1, a2]; exact KR.look r
theorem KR.any {K : PySem.W.Frag} {W : Wd} {k : Key} : ∀ {ks : List (Key × V)} {kvs : List (Key × D)}, KR K W ks kvs → (ks.any fun kv => decide (kv.1 = k)) = (kvs.any fun kv => decide (kv.1 = k))
  | _, _, .nil => rfl
  | (k1, v) :: ks, (k2, d) :: kvs, .cons ⟨e, h⟩ r => by
    have e' : k1 = k2 := e
    subst e'
    rw [List.any_cons, List.any_cons, KR.any r]
theorem KR.map {K : PySem.W.Frag} {W : Wd} {k : Key} {v : V} {d : D} (hd : DR K W v d) : ∀ {ks : List (Key × V)} {kvs : List (Key × D)}, KR K W ks kvs → KR K W (ks.map fun kv => if kv.1 = k then (kv.1, v) else kv) (kvs.map fun kv => if kv.1 = k then (kv.1, d) else kv)
  | _, _, .nil => .nil
  | (k1, v1) :: ks, (k2, d1) :: kvs, .cons ⟨e, h⟩ r => by
    have e' : k1 = k2 := e
    subst e'
    rw [List.map_cons, List.map_cons]
    by_cases z : k1 = k
    · rw [if_pos z, if_pos z]; exact .cons ⟨rfl, hd⟩ (KR.map hd r)
    · rw [if_neg z, if_neg z]; exact .cons ⟨rfl, h⟩ (KR.map hd r)
theorem KR.append {K : PySem.W.Frag} {W : Wd} : ∀ {ks ls : List (Key × V)} {kvs lvs : List (Key × D)}, KR K W ks kvs → KR K W ls lvs → KR K W (ks ++ ls) (kvs ++ lvs)
  | _, _, _, _, .nil, s => s
  | _, _, _, _, .cons h r, s => .cons h (KR.append r s)
theorem KR.put {K : PySem.W.Frag} {W : Wd} {k : Key} {v : V} {d : D} (hd : DR K W v d) {ks : List (Key × V)} {kvs : List (Key × D)} (h : KR K W ks kvs) : KR K W (putK ks k v) (putD kvs k d) := by
  unfold putK putD
  rw [h.any (k := k)]
  by_cases z : (kvs.any fun kv => decide (kv.1 = k)) = true
  · rw [if_pos z, if_pos z]; exact h.map hd
  · rw [if_neg z, if_neg z]; exact h.append (.cons ⟨rfl, hd⟩ .nil)
theorem KR.len {K : PySem.W.Frag} {W : Wd} : ∀ {ks : List (Key × V)} {kvs : List (Key × D)}, KR K W ks kvs → ks.length = kvs.length
  | _, _, .nil => rfl
  | _, _, .cons _ r => by rw [List.length_cons, List.length_cons, KR.len r]
/-- d[k], there -/
def mDGet (i : Nat) (mk : M) : M := fun ρ n R RX => (∃ kvs, ρ[i]? = some (.ownd kvs)) ∧ mk ρ n (fun s ρ1 n1 => toD s fun kd => match ρ1[i]? with
  | some (.ownd kvs) => ∃ k d, keyD kd = some k ∧ lookD kvs k = some d ∧ R (.dat d) ρ1 n1
  | _ => False) RX
theorem o_dget {i : Nat} {mk : M} (h : PE X e (tDGet (tVar i) (tOf G mk))) : PE X e (tOf G (mDGet i mk)) := pe_imp h fun σ H Q ⟨ρ, n, W, R, RX, r, ⟨⟨k0, e0⟩, h⟩, l, x⟩ => by
  obtain ⟨q, e2, _⟩ := r.sl i _ e0
  refine ⟨.ref q, e2, of_bindD r x h fun kd ρ1 n1 v H1 W1 h1 r1 g1 d1 x1 => ?_⟩
  split at h1
  · rename_i kvs e1
    obtain ⟨k, d, hk, hl, hR⟩ := h1
    obtain ⟨q', e2', ⟨ks, hq, hv⟩, _⟩ := r1.sl i _ e1
    rw [e2] at e2'; cases e2'
    have hz := hv.look (k := k)
    rw [hl] at hz
    cases hz' : valV ks k with
    | none => rw [hz'] at hz; exact hz.elim
    | some v2 =>
      rw [hz'] at hz
      refine ⟨q, v2, rfl, ?_, rl_same r1 (l.go g1) hR hz⟩
      rw [d1.key hk, ← hz']
      exact DGet.k hq
  · exact h1.elim
/-- k in d, not in -/
def mDIn (neg : Bool) (i : Nat) (mk : M) : M := fun ρ n R RX => mk ρ n (fun s ρ1 n1 => toD s fun kd => match ρ1[i]? with
  | some (.ownd kvs) => ∃ k, keyD kd = some k ∧ R (.dat (.bl (neg ^^ (lookD kvs k).isSome))) ρ1 n1
  | _ => False) RX
theorem din_read {i : Nat} {mk : M} {neg : Bool} {σ : L2.St} {H : Hp} {Q : VK} (h : tOf G (mDIn neg i mk) σ H Q) : tOf G mk σ H fun y H1 => tVar i σ H1 fun x H2 => ∃ a o, x = .ref a ∧ DGet H2 a y o ∧ Q (.bl (neg ^^ o.isSome)) H2 := by
  obtain ⟨ρ, n, W, R, RX, r, h, l, x⟩ := h
  refine of_bindD r x h fun kd ρ1 n1 v H1 W1 h1 r1 g1 d1 x1 => ?_
  split at h1
  · rename_i kvs e1
    obtain ⟨k, hk, hR⟩ := h1
    obtain ⟨q, e2, ⟨ks, hq, hv⟩, _⟩ := r1.sl i _ e1
    refine ⟨.ref q, e2, q, valV ks k, rfl, by rw [d1.key hk]; exact DGet.k hq, ?_⟩
    have hz := hv.look (k := k)
    have : (valV ks k).isSome = (lookD kvs k).isSome := by
      cases h1 : valV ks k <;> cases h2 : lookD kvs k <;> rw [h1, h2] at hz <;> first | rfl | exact hz.elim
    rw [this]
    exact rl_same r1 (l.go g1) hR (.bl _)
  · exact h1.elim
theorem o_din {i : Nat} {mk : M} (h : PE X e (tDIn (tOf G mk) (tVar i))) : PE X e (tOf G (mDIn false i mk)) := pe_imp h fun σ H Q h => by
  have q := din_read h
  simp only [Bool.false_xor] at q
  exact q
theorem o_dnotin {i : Nat} {mk : M} (h : PE X e (tDNotIn (tOf G mk) (tVar i))) : PE X e (tOf G (mDIn true i mk)) := pe_imp h fun σ H Q h => by
  have q := din_read h
  simp only [Bool.true_xor] at q
  exact q
/-- a test by its value's rule -/
theorem t_of {t : TE} {m : M} (h : PT X e (tB t)) (k : ∀ σ H Q, tOf G m σ H Q → t σ H Q) : PT X e (tTest (tOf G m)) := pt_imp h fun σ H Q h => k σ H _ h
theorem t_din {i : Nat} {mk : M} (h : PT X e (tB (tDIn (tOf G mk) (tVar i)))) : PT X e (tTest (tOf G (mDIn false i mk))) := t_of h fun σ H Q h => by
  have q := din_read h
  simp only [Bool.false_xor] at q
  exact q
theorem t_dnotin {i : Nat} {mk : M} (h : PT X e (tB (tDNotIn (tOf G mk) (tVar i)))) : PT X e (tTest (tOf G (mDIn true i mk))) := t_of h fun σ H Q h => by
  have q := din_read h
  simp only [Bool.true_xor] at q
  exact q
/-- d[k] = v -/
def sDPut (i : Nat) (mk mv : M) : MS := fun DD ρ n => mv ρ n (fun s ρ1 n1 => toD s fun d => (∃ kvs, ρ1[i]? = some (.ownd kvs)) ∧ mk ρ1 n1 (fun t ρ2 n2 => toD t fun kd => match ρ2[i]? with
  | some (.ownd kvs) => ∃ k, keyD kd = some k ∧ kvs.length < 1000000 ∧ DD.nx (ρ2.set i (.ownd (putD kvs k d))) n2
  | _ => False) DD.ex) DD.ex
theorem s_dput {i : Nat} {mk mv : M} (hps : PS X st (L2.sDPut (tVar i) (tOf G mk) (tOf G mv))) : PS X st (tsOf G (sDPut i mk mv)) := ps_imp hps fun D σ H ⟨ρ, n, W, DD, r, h, l⟩ => by
  refine of_bindD r l.ex h fun d ρ1 n1 v H1 W1 h1 r1 g1 d1 x1 => ?_
  obtain ⟨⟨k0, e0⟩, h1⟩ := h1
  obtain ⟨q, e2, _⟩ := r1.sl i _ e0
  refine ⟨.ref q, e2, of_bindD r1 x1 h1 fun kd ρ2 n2 y H2 W2 h2 r2 g2 d2 x2 => ?_⟩
  split at h2
  · rename_i kvs e1
    obtain ⟨k, hk, hl, hR⟩ := h2
    obtain ⟨q', e2', ⟨ks, hq, hv⟩, _⟩ := r2.sl i _ e1
    rw [e2] at e2'; cases e2'
    obtain ⟨r3, g3⟩ := rel_mut (s' := .ownd (putD kvs k d)) (o := .dK (putK ks k v)) r2 e1 trivial e2 ⟨putK ks k v, upd_same, hv.put (d1.mono g2.go.le)⟩
    refine ⟨q, _, rfl, ?_, l.nx _ n2 σ _ W2 hR r3 ((g1.trans g2).go.trans g3)⟩
    rw [d2.key hk]
    exact DPut.k hq (by rw [hv.len]; exact small_line hl)
  · exact h2.elim

/-! ### while -/
def sWhl (t : M) (u : MS) : MS := fun DD ρ n => ∃ Iv : Nat → List S → Nat → Prop, (∃ k, Iv k ρ n) ∧ ∀ k ρ' n', Iv k ρ' n' → t ρ' n' (fun s ρ1 n1 => toB s fun c =>
  wIf c (u { DD with nx := fun ρ2 n2 => ∃ k', k' < k ∧ Iv k' ρ2 n2, ct := fun ρ2 n2 => ∃ k', k' < k ∧ Iv k' ρ2 n2, bk := DD.nx } ρ1 n1) (DD.nx ρ1 n1)) DD.ex
theorem s_whl {hp : PassesOwn (model X.prog X.w) X.A X.env X.xe} (hc : PT X e (tTest (tOf G m))) (hb : PSs X sts (tsOf G u)) : PS X (.While e sts [] pos) (tsOf G (sWhl m u)) := ps_imp (ps_while hp hc hb) fun D σ H ⟨ρ, n, W, DD, r, ⟨Iv, ⟨k0, i0⟩, hI⟩, l⟩ => by
  refine ⟨fun k σ' H' => ∃ ρ' n' W', Rel G.K σ' ρ' n' W' H' ∧ Go σ ρ W H σ' ρ' W' H' ∧ Iv k ρ' n', ⟨k0, ρ, n, W, r, Go.refl _ _ _ _, i0⟩, ?_⟩
  rintro k σ' H' ⟨ρ', n', W', r', g', i'⟩
  have l' := l.go g'
  refine of_test r' l'.ex (hI k ρ' n' i') fun c ρ1 n1 H1 W1 h1 r1 g1 x1 => wIf.ite ⟨fun q => ?_, fun q => l'.nx ρ1 n1 σ' H1 W1 (h1.2 q) r1 g1.go⟩
  have l1 := l'.go g1.go
  refine ⟨fun σ2 H2 => ∃ k' ρ2 n2 W2, k' < k ∧ Rel G.K σ2 ρ2 n2 W2 H2 ∧ Go σ ρ W H σ2 ρ2 W2 H2 ∧ Iv k' ρ2 n2, fun σ2 H2 ⟨k', ρ2, n2, W2, hk, r2, g2, i2⟩ => ⟨k', hk, ρ2, n2, W2, r2, g2, i2⟩, ρ1, n1, W1, _, r1, h1.1 q, ?_⟩
  exact ⟨fun ρ2 n2 σ2 H2 W2 ⟨k', hk, i2⟩ r2 g2 => ⟨k', ρ2, n2, W2, hk, r2, (g'.trans g1.go).trans g2, i2⟩, l1.rt, fun ρ2 n2 σ2 H2 W2 h2 r2 g2 => l1.nx ρ2 n2 σ2 H2 W2 h2 r2 g2,
    fun ρ2 n2 σ2 H2 W2 ⟨k', hk, i2⟩ r2 g2 => ⟨k', ρ2, n2, W2, hk, r2, (g'.trans g1.go).trans g2, i2⟩, l1.ex⟩
end
end PL

set_option Elab.async false
set_option linter.all false
set_option maxRecDepth 100000
set_option maxHeartbeats 4000000
namespace PL
open PySem L2
section
variable {X : Cx} {G : Gx} {e a b tg iter : Expr} {m ma mb : M} {pos p : Pos} {es : List Expr} {st : Stmt} {rest sts sts' : List Stmt} {u w : MS}

/-! ### what is walked -/
abbrev MI := List S → Nat → (List D → List S → Nat → Prop) → XR → Prop
structure Wk (K : PySem.W.Frag) (W0 : Wd) (J : It) (ds : List D) : Prop where
  go : ∀ i W H n, i < ds.length → Wle W0 W → WOk W H n → J.go i H
  stop : ∀ i W H n, ds.length ≤ i → Wle W0 W → WOk W H n → J.stop i H
  yld : ∀ i W H n x H', Wle W0 W → WOk W H n → J.yld i H x H' → i < ds.length → ∃ d W', ds[i]? = some d ∧ Al W H n W' H' ∧ DR K W' x d
def tiOf (G : Gx) (m : MI) : TI := fun σ H Q => ∃ ρ n W R RX, Rel G.K σ ρ n W H ∧ m ρ n R RX ∧ (∀ ds ρ' n' J H' W', R ds ρ' n' → Rel G.K σ ρ' n' W' H' → GoE σ ρ W H ρ' W' H' → Wk G.K W' J ds → Q J H') ∧ XL G σ ρ W H RX
theorem wk_list {K : PySem.W.Frag} {W : Wd} {a : Addr} {vs : List V} {ds : List D} (h : LsA K W.F a vs) (r : DRs K W vs ds) : Wk K W (Itl K a) ds where
  go := fun i W' H n hi w ok => ⟨vs, vs[i]'(by rw [r.length]; exact hi), (sql_mono (fun a o e => ok.frz a o (w.1 a o e)) h).sql, List.getElem?_eq_getElem _⟩
  stop := fun i W' H n hi w ok => ⟨vs, (sql_mono (fun a o e => ok.frz a o (w.1 a o e)) h).sql, by rw [r.length]; exact hi⟩
  yld := fun i W' H n x H' w ok y hi => by
    obtain ⟨rfl, y⟩ := y
    obtain ⟨d, e, dd⟩ := r.getv i (y vs ((sql_mono (fun a o e => ok.frz a o (w.1 a o e)) h).sql))
    exact ⟨d, W', e, Al.refl ok, dd.mono w⟩
theorem wk_tup {K : PySem.W.Frag} {W : Wd} {a : Addr} {vs : List V} {ds : List D} (h : SqT K W.F a vs) (r : DRs K W vs ds) : Wk K W (Itt K a) ds where
  go := fun i W' H n hi w ok => ⟨vs, vs[i]'(by rw [r.length]; exact hi), sqt_mono (fun a o e => ok.frz a o (w.1 a o e)) h, List.getElem?_eq_getElem _⟩
  stop := fun i W' H n hi w ok => ⟨vs, sqt_mono (fun a o e => ok.frz a o (w.1 a o e)) h, by rw [r.length]; exact hi⟩
  yld := fun i W' H n x H' w ok y hi => by
    obtain ⟨rfl, y⟩ := y
    obtain ⟨d, e, dd⟩ := r.getv i (y vs (sqt_mono (fun a o e => ok.frz a o (w.1 a o e)) h))
    exact ⟨d, W', e, Al.refl ok, dd.mono w⟩
def iSeq (m : M) : MI := fun ρ n R RX => m ρ n (fun s ρ1 n1 => toD s fun d => seqD d fun ds => R ds ρ1 n1) RX
theorem i_seq (c : Ctx X G) (h : PE X e (tOf G m)) : PI X tg e (tiOf G (iSeq m)) := by
  constructor
  rintro pins s σ H Q I ⟨ρ, n, W, R, RX, r, hm, l, x⟩
  have hr : tOf G m σ H (fun v H1 => ∃ q J, v = .ref q ∧ Q J H1 ∧ ((∃ vs, J = Itl X.K q ∧ SqL X.K H1 q vs) ∨ (∃ vs, J = Itt X.K q ∧ SqT X.K H1 q vs))) := of_bindD r x hm fun d ρ1 n1 v H1 W1 h1 r1 g1 d1 x1 => by
    obtain ⟨ds, e, h1⟩ := seqD_some h1
    rcases e with e | e
    · subst e
      cases d1 with
      | tup h2 r2 => exact ⟨_, _, rfl, l ds ρ1 n1 _ H1 W1 h1 r1 g1 (wk_tup h2 r2), .inr ⟨_, by rw [c.K], by rw [c.K]; exact sqt_H r1.ok h2⟩⟩
    · subst e
      cases d1 with
      | lst h2 r2 => exact ⟨_, _, rfl, l ds ρ1 n1 _ H1 W1 h1 r1 g1 (wk_list h2 r2), .inl ⟨_, by rw [c.K], by rw [c.K]; exact sql_H r1.ok h2⟩⟩
  refine thn (h.run pins s σ H _ I hr) ?_
  rintro v s1 ⟨y, H1, I1, ry, q, J, ey, hQ, hJ⟩
  subst ey
  obtain rfl : v = Value.ref q := ry
  have new : ∀ o : Obj, Inv X pins σ H1 { s1 with heap := s1.heap.push o } := fun o => I1.kept (t' := s1.toks) fun b o' e => Heap.get?_push_of_some _ e
  have fp : ∀ bb ∈ [s1.heap.objs.size], FpOk X pins H1 bb := fun bb hb => by
    rw [List.mem_singleton.mp hb]
    exact I1.fpOk (Nat.le_refl _) (I1.hok.fresh (Nat.le_refl _))
  rcases hJ with ⟨vs, rfl, hq⟩ | ⟨vs, rfl, hq⟩
  · obtain ⟨its, rv, pl, _⟩ := I1.list hq
    exact wpAny_pyIter_list pl.isList ⟨_, [s1.heap.objs.size], _, _, H1, rfl, new _, turn_list q _, ⟨_, Heap.get?_push_size _ rfl, rfl, rfl⟩, fp, hQ⟩
  · obtain ⟨its, rv, pl, _⟩ := I1.tuple hq
    exact wpAny_pyIter_tuple (show s1.heap.IsTuple q its.toArray from pl) ⟨_, [s1.heap.objs.size], _, _, H1, rfl, new _, turn_tuple q _, ⟨_, Heap.get?_push_size _ rfl, rfl, rfl⟩, fp, hQ⟩
def rngD (lo hi : Int) : List D := (List.range (hi - lo).toNat).map fun i => .int (lo + (i : Nat))
theorem rngD_length (lo hi : Int) : (rngD lo hi).length = (hi - lo).toNat := by unfold rngD; rw [List.length_map, List.length_range]
theorem rngD_get {lo hi : Int} {i : Nat} (h : i < (hi - lo).toNat) : (rngD lo hi)[i]? = some (.int (lo + (i : Nat))) := by
  unfold rngD
  rw [List.getElem?_map, List.getElem?_range h]; rfl
theorem wk_rng {K : PySem.W.Frag} {W : Wd} {lo hi : Int} : Wk K W (Itr lo (hi - lo).toNat) (rngD lo hi) where
  go := fun i W' H n h _ _ => by rw [rngD_length] at h; exact h
  stop := fun i W' H n h _ _ => by rw [rngD_length] at h; exact h
  yld := fun i W' H n x H' _ ok y h => by
    obtain ⟨rfl, rfl⟩ := y
    rw [rngD_length] at h
    exact ⟨_, W', rngD_get h, Al.refl ok, .int _⟩
def iRg1 (m : MA) : MI := fun ρ n R RX => m ρ n (fun ds ρ1 n1 => ∃ j, ds = [.int j] ∧ -(2 ^ 60) ≤ j ∧ j ≤ 2 ^ 60 ∧ R (rngD 0 j) ρ1 n1) RX
def iRg2 (m : MA) : MI := fun ρ n R RX => m ρ n (fun ds ρ1 n1 => ∃ i j, ds = [.int i, .int j] ∧ -(2 ^ 60) ≤ i ∧ i ≤ 2 ^ 60 ∧ -(2 ^ 60) ≤ j ∧ j ≤ 2 ^ 60 ∧ R (rngD i j) ρ1 n1) RX
theorem pi_imp {X : Cx} {tg e : Expr} {t t' : TI} (h : PI X tg e t) (k : ∀ σ H Q, t' σ H Q → t σ H Q) : PI X tg e t' := ⟨fun pins s σ H Q I q => h.run pins s σ H Q I (k σ H Q q)⟩
theorem i_rg1 {m : MA} (h : PI X tg e (iRng1 (taOf G m))) : PI X tg e (tiOf G (iRg1 m)) := pi_imp h fun σ H Q ⟨ρ, n, W, R, RX, r, hm, l, x⟩ => by
  refine of_args r x hm fun ds ρ1 n1 vs H1 W1 h1 r1 g1 d1 x1 => ?_
  obtain ⟨j, rfl, b1, b2, h1⟩ := h1
  obtain ⟨v, rfl, hv⟩ := drs1 d1
  cases hv
  refine ⟨j, rfl, by omega, by omega, ?_⟩
  have k := l _ ρ1 n1 _ H1 W1 h1 r1 g1 (wk_rng (lo := 0) (hi := j))
  rw [Int.sub_zero] at k
  exact k
theorem i_rg2 {m : MA} (h : PI X tg e (iRng2 (taOf G m))) : PI X tg e (tiOf G (iRg2 m)) := pi_imp h fun σ H Q ⟨ρ, n, W, R, RX, r, hm, l, x⟩ => by
  refine of_args r x hm fun ds ρ1 n1 vs H1 W1 h1 r1 g1 d1 x1 => ?_
  obtain ⟨i, j, rfl, b1, b2, b3, b4, h1⟩ := h1
  obtain ⟨v, w, rfl, hv, hw⟩ := drs2 d1
  cases hv; cases hw
  exact ⟨i, j, rfl, ⟨by omega, by omega, by omega, by omega⟩, l _ ρ1 n1 _ H1 W1 h1 r1 g1 wk_rng⟩

/-! ### for -/
def forL (gt : D → List S → (List S → Prop) → Prop) (u : MS) (DD : ED) : List D → List S → Nat → Prop
  | [], ρ, n => DD.nx ρ n
  | d :: ds, ρ, n => gt d ρ fun ρ1 => u { DD with nx := forL gt u DD ds, ct := forL gt u DD ds, bk := DD.nx } ρ1 n
def sFor (mi : MI) (gt : D → List S → (List S → Prop) → Prop) (u : MS) : MS := fun DD ρ n => mi ρ n (fun ds ρ1 n1 => forL gt u DD ds ρ1 n1) DD.ex
theorem s_for {mi : MI} {ts : List Nat} {gt : D → List S → (List S → Prop) → Prop} {hp : PassesOwn (model X.prog X.w) X.A X.env X.xe} (c : Ctx X G) (hi : PI X tg iter (tiOf G mi)) (hg : PG X tg (tgOf G ts gt)) (hb : PSs X sts (tsOf G u))
    (hs : ∀ x, foldedSetIterable iter X.env x = pure x := by intro _; rfl) : PS X (.For tg iter sts [] pos) (tsOf G (sFor mi gt u)) := ps_imp (ps_for hp c.calm hi hg hb hs) fun D σ H ⟨ρ, n, W, DD, r, h, l⟩ => by
  refine ⟨ρ, n, W, _, _, r, h, fun ds ρ1 n1 J H1 W1 h1 r1 g1 wk => ?_, l.ex⟩
  have l1 := l.go g1.go
  refine ⟨fun i k σ' H' => ∃ ρ' n' W', Rel G.K σ' ρ' n' W' H' ∧ Go σ ρ1 W1 H1 σ' ρ' W' H' ∧ i ≤ ds.length ∧ k = ds.length - i ∧ forL gt u DD (ds.drop i) ρ' n', ⟨ds.length, ρ1, n1, W1, r1, Go.refl _ _ _ _, Nat.zero_le _, rfl, h1⟩, ?_⟩
  rintro i k σ' H' ⟨ρ', n', W', r', g', hi, rfl, hf⟩
  have l2 := l1.go g'
  by_cases hlt : i < ds.length
  · right
    refine ⟨wk.go i W' H' n' hlt g'.le r'.ok, fun σ2 H2 => ∃ ρ2 n2 W2, Rel G.K σ2 ρ2 n2 W2 H2 ∧ Go σ ρ1 W1 H1 σ2 ρ2 W2 H2 ∧ forL gt u DD (ds.drop (i + 1)) ρ2 n2, fun σ2 H2 ⟨ρ2, n2, W2, a1, a2, a3⟩ => ⟨ds.length - (i + 1), by omega, ρ2, n2, W2, a1, a2, hlt, rfl, a3⟩, fun x H2 hy => ?_⟩
    obtain ⟨d, W2, ed, al, dd⟩ := wk.yld i W' H' n' x H2 g'.le r'.ok hy hlt
    obtain ⟨r2, g2⟩ := rel_al r' al
    have e0 : ds.drop i = d :: ds.drop (i + 1) := by
      rw [List.drop_eq_getElem_cons hlt]
      rw [List.getElem?_eq_getElem hlt] at ed
      cases ed; rfl
    rw [e0] at hf
    refine ⟨ρ', n', W2, d, _, r2, dd, hf, fun ρ3 σ3 q3 r3 f3 o3 l3 => ⟨ρ3, n', W2, _, r3, q3, ?_⟩⟩
    have g3 := (g'.trans g2.go).trans (go_tg f3 o3).2
    have l4 := l1.go g3
    exact ⟨fun ρ4 n4 σ4 H4 W4 h4 r4 g4 => ⟨ρ4, n4, W4, r4, g3.trans g4, h4⟩, l4.rt, l4.nx, fun ρ4 n4 σ4 H4 W4 h4 r4 g4 => ⟨ρ4, n4, W4, r4, g3.trans g4, h4⟩, l4.ex⟩
  · left
    have e : ds.drop i = [] := List.drop_of_length_le (by omega)
    rw [e] at hf
    exact ⟨wk.stop i W' H' n' (by omega) g'.le r'.ok, l2.nx ρ' n' σ' H' W' hf r' (Go.refl _ _ _ _)⟩
/-- return y, y the frame's own -/
theorem s_retV {i : Nat} (ha : PE X e (tVar i)) : PS X (.Return (some e) pos) (tsOf G (sRetV i)) := ps_imp (ps_ret ha) fun D σ H ⟨ρ, n, W, DD, r, ⟨s, e1, o, h⟩, l⟩ => by
  obtain ⟨q, e2, hc, ho⟩ := (r.sl i s e1).of_own o
  refine ⟨.ref q, e2, l.rt s n _ H W σ ρ h r (Go.refl _ _ _ _) ?_⟩
  have k : Own σ ρ q ∨ H q = none := .inl ⟨i, s, e1, o, e2⟩
  cases s <;> first | exact ⟨q, rfl, hc, ho, k⟩ | exact o.elim
end
end PL

set_option Elab.async false
set_option linter.all false
set_option maxRecDepth 100000
set_option maxHeartbeats 4000000
namespace PL
open PySem L2
section
variable {X : Cx} {G : Gx} {e a b tg iter tg1 iter1 : Expr} {m ma mb : M} {pos p : Pos} {es : List Expr} {st : Stmt}

/-! ### comprehensions -/
abbrev Gx.quiet (G : Gx) : Gx := { G with E := fun _ _ _ => False }
def wipeD (ρ : List S) : List Nat → List S
  | [] => ρ
  | v :: vs => (wipeD ρ vs).set v .un
theorem wipe_get {σ : L2.St} {j : Nat} : ∀ {vs : List Nat}, j ∉ vs → (wipe σ vs)[j]? = σ[j]?
  | [], _ => rfl
  | v :: vs, h => by
    unfold wipe
    have n : v ≠ j := fun z => h (by rw [z]; exact List.mem_cons_self)
    rw [List.getElem?_set_ne n]
    exact wipe_get fun z => h (List.mem_cons_of_mem _ z)
theorem wipeD_get {ρ : List S} {j : Nat} : ∀ {vs : List Nat}, j ∉ vs → (wipeD ρ vs)[j]? = ρ[j]?
  | [], _ => rfl
  | v :: vs, h => by
    unfold wipeD
    have n : v ≠ j := fun z => h (by rw [z]; exact List.mem_cons_self)
    rw [List.getElem?_set_ne n]
    exact wipeD_get fun z => h (List.mem_cons_of_mem _ z)
theorem wipeD_length (ρ : List S) : ∀ vs : List Nat, (wipeD ρ vs).length = ρ.length
  | [] => rfl
  | v :: vs => by unfold wipeD; rw [List.length_set, wipeD_length ρ vs]
theorem wipeD_in {ρ : List S} {j : Nat} {s : S} : ∀ {vs : List Nat}, j ∈ vs → (wipeD ρ vs)[j]? = some s → s = .un
  | v :: vs, h, e => by
    unfold wipeD at e
    by_cases n : v = j
    · subst n
      have hi : v < (wipeD ρ vs).length := by
        have := (List.getElem?_eq_some_iff.mp e).1
        rw [List.length_set] at this; exact this
      rw [List.getElem?_set_self hi] at e; cases e; rfl
    · rw [List.getElem?_set_ne n] at e
      rcases List.mem_cons.mp h with z | z
      · exact absurd z.symm n
      · exact wipeD_in z e
theorem wipe_in {σ : L2.St} {j : Nat} {o : Option V} : ∀ {vs : List Nat}, j ∈ vs → (wipe σ vs)[j]? = some o → o = none
  | v :: vs, h, e => by
    unfold wipe at e
    by_cases n : v = j
    · subst n
      have hi : v < (wipe σ vs).length := by
        have := (List.getElem?_eq_some_iff.mp e).1
        rw [List.length_set] at this; exact this
      rw [List.getElem?_set_self hi] at e; cases e; rfl
    · rw [List.getElem?_set_ne n] at e
      rcases List.mem_cons.mp h with z | z
      · exact absurd z.symm n
      · exact wipe_in z e
/-- two rows of slots that differ at vs alone are the same when these are forgotten -/
theorem wipe_eq {σ σ2 : L2.St} {vs : List Nat} (hl : σ2.length = σ.length) (h : ∀ j, j ∉ vs → σ2[j]? = σ[j]?) : wipe σ2 vs = wipe σ vs := by
  refine List.ext_getElem? fun j => ?_
  by_cases hj : j ∈ vs
  · have l1 := wipe_length σ2 vs
    have l2 := wipe_length σ vs
    by_cases hi : j < σ.length
    · have e1 : (wipe σ2 vs)[j]? = some (wipe σ2 vs)[j] := List.getElem?_eq_getElem (by omega)
      have e2 : (wipe σ vs)[j]? = some (wipe σ vs)[j] := List.getElem?_eq_getElem (by omega)
      have q1 := wipe_in hj e1
      have q2 := wipe_in hj e2
      rw [e1, e2, q1, q2]
    · rw [List.getElem?_eq_none (by omega), List.getElem?_eq_none (by omega)]
  · rw [wipe_get hj, wipe_get hj, h j hj]
theorem rel_wipe {K : PySem.W.Frag} {σ : L2.St} {ρ : List S} {n : Nat} {W : Wd} {H : Hp} (r : Rel K σ ρ n W H) (vs : List Nat) : Rel K (wipe σ vs) (wipeD ρ vs) n W H := by
  have key : ∀ (j : Nat) (s : S), (wipeD ρ vs)[j]? = some s → s = .un ∨ (j ∉ vs ∧ ρ[j]? = some s) := fun j s h => by
    by_cases hj : j ∈ vs
    · exact .inl (wipeD_in hj h)
    · rw [wipeD_get hj] at h; exact .inr ⟨hj, h⟩
  refine ⟨r.ok, fun j s h => ?_, fun i j s t q h1 h2 h3 h4 h5 h6 => ?_, by rw [wipeD_length, wipe_length]; exact r.len⟩
  · rcases key j s h with rfl | ⟨hj, h⟩
    · trivial
    · rw [wipe_get hj]; exact r.sl j s h
  · rcases key i s h1 with rfl | ⟨hi, h1⟩
    · exact h3.elim
    · rcases key j t h2 with rfl | ⟨hj, h2⟩
      · exact h4.elim
      · rw [wipe_get hi] at h5
        rw [wipe_get hj] at h6
        exact r.inj i j s t q h1 h2 h3 h4 h5 h6
/-- inner slots: the outer ones, some forgotten or data -/
def Sub (σ : L2.St) (ρ : List S) (σ2 : L2.St) (ρ2 : List S) : Prop := ∀ (j : Nat) (s : S), ρ2[j]? = some s → s.isOwn → ρ[j]? = some s ∧ σ2[j]? = σ[j]?
theorem sub_wipe {σ : L2.St} {ρ : List S} {vs : List Nat} : Sub σ ρ (wipe σ vs) (wipeD ρ vs) := fun j s h o => by
  by_cases hj : j ∈ vs
  · rw [wipeD_in hj h] at o; exact o.elim
  · rw [wipeD_get hj] at h
    exact ⟨h, wipe_get hj⟩
theorem sub_tg {σ σ2 σ3 : L2.St} {ρ ρ2 ρ3 : List S} {ts : List Nat} (s : Sub σ ρ σ2 ρ2) (f : ∀ j : Nat, j ∉ ts → σ3[j]? = σ2[j]? ∧ ρ3[j]? = ρ2[j]?) (o : ∀ (j : Nat) (s : S), j ∈ ts → ρ3[j]? = some s → ¬ s.isOwn) : Sub σ ρ σ3 ρ3 := fun j t h ho => by
  by_cases hj : j ∈ ts
  · exact absurd ho (o j t hj h)
  · rw [(f j hj).2] at h
    obtain ⟨a1, a2⟩ := s j t h ho
    exact ⟨a1, (f j hj).1.trans a2⟩
theorem Sub.own {σ σ2 : L2.St} {ρ ρ2 : List S} (s : Sub σ ρ σ2 ρ2) {q : Addr} (h : Own σ2 ρ2 q) : Own σ ρ q := by
  obtain ⟨j, t, h1, h2, h3⟩ := h
  obtain ⟨a1, a2⟩ := s j t h1 h2
  exact ⟨j, t, a1, h2, a2 ▸ h3⟩
/-- back to the outer slots -/
theorem rel_back {K : PySem.W.Frag} {σ σ2 : L2.St} {ρ ρ2 : List S} {n n' : Nat} {W W' : Wd} {H H' : Hp} (r : Rel K σ ρ n W H) (sub : Sub σ ρ σ2 ρ2) (r2 : Rel K σ2 ρ2 n' W' H') (g : Go σ2 ρ2 W H σ2 ρ2 W' H') : Rel K σ ρ n' W' H' ∧ GoE σ ρ W H ρ W' H' := by
  have keep : ∀ (i : Nat) (s : S) (q : Addr), ρ[i]? = some s → s.isOwn → σ[i]? = some (some (.ref q)) → CnAt K W H q s → Out W q → CnAt K W' H' q s ∧ Out W' q := fun i s q h1 h2 h3 hc ho => by
    by_cases hq : Own σ2 ρ2 q
    · obtain ⟨j, t, b1, b2, b3⟩ := hq
      obtain ⟨a1, a2⟩ := sub j t b1 b2
      have e := r.inj i j s t q h1 a1 h2 b2 h3 (a2 ▸ b3)
      subst e
      rw [h1] at a1; cases a1
      obtain ⟨q', e', hc', ho'⟩ := (r2.sl i s b1).of_own b2
      rw [b3] at e'; cases e'
      exact ⟨hc', ho'⟩
    · obtain ⟨o, hq'⟩ := hc.some
      obtain ⟨e1, e2⟩ := g.fr q o hq' ho hq
      exact ⟨hc.mono g.le (e1.trans hq'.symm), e2⟩
  refine ⟨⟨r2.ok, fun i s h => ?_, r.inj, r.len⟩, ⟨g.le, fun x o hx hox hn => g.fr x o hx hox fun z => hn (sub.own z), g.tr, fun _ h => .inl h⟩, fun _ h => h⟩
  have x := r.sl i s h
  cases s with
  | un => trivial
  | dat d => obtain ⟨v, h1, h2⟩ := x; exact ⟨v, h1, h2.mono g.le⟩
  | own ds => obtain ⟨q, h1, h2, h3⟩ := x; obtain ⟨a1, a2⟩ := keep i _ q h trivial h1 h2 h3; exact ⟨q, h1, a1, a2⟩
  | ownd ds => obtain ⟨q, h1, h2, h3⟩ := x; obtain ⟨a1, a2⟩ := keep i _ q h trivial h1 h2 h3; exact ⟨q, h1, a1, a2⟩
/-- the list that is filled changes -/
theorem rel_fill {K : PySem.W.Frag} {σ : L2.St} {ρ : List S} {n : Nat} {W : Wd} {H : Hp} {q : Addr} {o : HO} (r : Rel K σ ρ n W H) (ho : Out W q) (hn : ¬ Own σ ρ q) : Rel K σ ρ n W (upd H q o) := by
  refine ⟨⟨fun x o' hx => ?_, fun x hx => ⟨(r.ok.pot x hx).1, ?_⟩⟩, fun i s h => ?_, r.inj, r.len⟩
  · have n : x ≠ q := fun z => by rw [z, ho.1] at hx; cases hx
    rw [upd_ne n]; exact r.ok.frz x o' hx
  · obtain ⟨a, b, c, h, t⟩ := (r.ok.pot x hx).2
    have n : x ≠ q := fun z => ho.2 (z ▸ hx)
    exact ⟨a, b, c, by rw [upd_ne n]; exact h, t⟩
  · have x := r.sl i s h
    cases s with
    | un => trivial
    | dat d => exact x
    | own ds =>
      obtain ⟨y, h1, h2, h3⟩ := x
      have n : y ≠ q := fun z => hn ⟨i, _, h, trivial, z ▸ h1⟩
      exact ⟨y, h1, h2.mono (Wle.refl W) (upd_ne n), h3⟩
    | ownd ds =>
      obtain ⟨y, h1, h2, h3⟩ := x
      have n : y ≠ q := fun z => hn ⟨i, _, h, trivial, z ▸ h1⟩
      exact ⟨y, h1, h2.mono (Wle.refl W) (upd_ne n), h3⟩
def RX0 : XR := fun _ _ _ => False
theorem xl0 {σ : L2.St} {ρ : List S} {W : Wd} {H : Hp} : XL G σ ρ W H RX0 := fun _ _ _ _ _ _ _ _ _ h => h.elim
/-- one turn: the target, the test, the element -/
def lcTurn (gt : D → List S → (List S → Prop) → Prop) (mt me : M) (ρ : List S) (d : D) (acc : List D) (n : Nat) (Kx : List D → Nat → Prop) : Prop :=
  gt d ρ fun ρ2 => mt ρ2 n (fun s ρ3 n3 => ρ3 = ρ2 ∧ toB s fun c => wIf c (me ρ2 n3 (fun t ρ4 n4 => ρ4 = ρ2 ∧ toD t fun e => acc.length < 1000000 ∧ Kx (acc ++ [e]) n4) RX0) (Kx acc n3)) RX0
def lcL (gt : D → List S → (List S → Prop) → Prop) (mt me : M) (ρ : List S) (Kx : List D → Nat → Prop) : List D → List D → Nat → Prop
  | [], acc, n => Kx acc n
  | d :: ds, acc, n => lcTurn gt mt me ρ d acc n fun acc' n' => lcL gt mt me ρ Kx ds acc' n'
def mLc (mi : MI) (gt : D → List S → (List S → Prop) → Prop) (mt me : M) (vs : List Nat) : M := fun ρ n R RX => mi ρ n (fun ds ρ1 n1 => lcL gt mt me (wipeD ρ1 vs) (fun acc n2 => R (.own acc) ρ1 n2) ds [] n1) RX
def mYes : M := mC (.bl true)
theorem ts_nil : PTs X [] (tTest (tOf G mYes)) := ⟨fun pins s σ H Q I h => (pts_nil (X := X)).run pins s σ H Q I (by
  obtain ⟨ρ, n, W, R, RX, r, hm, l, x⟩ := h
  obtain ⟨k, e, q⟩ := rl_same (v := .bl true) r l hm (.bl true)
  cases e; exact q)⟩
/-- the state while a comprehension fills the list at Dl -/
structure Lc (G : Gx) (σ : L2.St) (ρ1 : List S) (W1 : Wd) (H1 : Hp) (Dl : Addr) (acc : List D) (n' : Nat) (W' : Wd) (H' : Hp) : Prop where
  rel : Rel G.K σ ρ1 n' W' H'
  go : GoE σ ρ1 W1 H1 ρ1 W' H'
  at_ : ∃ vs, H' Dl = some (.lst vs) ∧ DRs G.K W' vs acc
  out : Out W' Dl
theorem Sub.refl (σ : L2.St) (ρ : List S) : Sub σ ρ σ ρ := fun _ _ h _ => ⟨h, rfl⟩
theorem Sub.trans {σ σ1 σ2 : L2.St} {ρ ρ1 ρ2 : List S} (a : Sub σ ρ σ1 ρ1) (b : Sub σ1 ρ1 σ2 ρ2) : Sub σ ρ σ2 ρ2 := fun j s h o => by
  obtain ⟨b1, b2⟩ := b j s h o
  obtain ⟨a1, a2⟩ := a j s b1 o
  exact ⟨a1, b2.trans a2⟩
/-- inner slots again, from the outer ones -/
theorem rel_in {K : PySem.W.Frag} {σ σ2 : L2.St} {ρ ρ2 : List S} {n n' : Nat} {W W' : Wd} {H H' : Hp} (r : Rel K σ ρ n' W' H') (r2 : Rel K σ2 ρ2 n W H) (sub : Sub σ ρ σ2 ρ2) (w : Wle W W') : Rel K σ2 ρ2 n' W' H' := by
  refine ⟨r.ok, fun i s h => ?_, r2.inj, r2.len⟩
  have x := r2.sl i s h
  cases s with
  | un => trivial
  | dat d => obtain ⟨v, h1, h2⟩ := x; exact ⟨v, h1, h2.mono w⟩
  | own ds =>
    obtain ⟨a1, a2⟩ := sub i _ h trivial
    rw [a2]; exact r.sl i _ a1
  | ownd ds =>
    obtain ⟨a1, a2⟩ := sub i _ h trivial
    rw [a2]; exact r.sl i _ a1
theorem toB_eq {P : Prop} {s : S} {F : Bool → Prop} : (P ∧ toB s F) ↔ toB s (fun c => P ∧ F c) := by
  constructor
  · rintro ⟨a1, a2⟩
    obtain ⟨c, rfl, a2⟩ := toB_some a2
    exact ⟨a1, a2⟩
  · intro a
    obtain ⟨c, rfl, a1, a2⟩ := toB_some a
    exact ⟨a1, a2⟩
theorem toD_eq {P : Prop} {s : S} {F : D → Prop} : (P ∧ toD s F) ↔ toD s (fun c => P ∧ F c) := by
  cases s with
  | un => exact ⟨fun a => a.2, fun a => a.elim⟩
  | dat d => exact Iff.rfl
  | own ds => exact Iff.rfl
  | ownd ds => exact ⟨fun a => a.2, fun a => a.elim⟩
/-- target and test of a turn -/
theorem lc_head {ts vs : List Nat} {gt : D → List S → (List S → Prop) → Prop} {g : TG} {mt : M} {σ σo : L2.St} {ρ1 ρo : List S} {n1 n' nb : Nat} {W1 W' W2 Wb : Wd} {H1 H' H2 Hb : Hp} {Dl : Addr} {acc : List D} {d : D} {x : V} {A : List S → Nat → Prop} {B : Nat → Prop} {T : L2.St → Hp → Prop} {Nx : Hp → Prop}
    (hts : ∀ j ∈ ts, j ∈ vs) (r1 : Rel G.K σo ρo n1 W1 H1) (nD : H1 Dl = none) (L : Lc G σo ρo W1 H1 Dl acc n' W' H') (sub0 : Sub σo ρo σ ρ1) (rb : Rel G.K σ ρ1 nb Wb Hb) (wb : Wle Wb W') (al : Al W' H' n' W2 H2) (dd : DR G.K W2 x d)
    (h : gt d (wipeD ρ1 vs) fun ρ2 => mt ρ2 n' (fun s ρ3 n3 => ρ3 = ρ2 ∧ toB s fun c => wIf c (A ρ2 n3) (B n3)) RX0)
    (hg : ∀ v σ H Q, tgOf G.quiet ts gt v σ H Q → g v σ H Q)
    (kT : ∀ σ2 ρ2 n3 W3 H3, A ρ2 n3 → Wle W' W3 → Sub σo ρo σ2 ρ2 → Rel G.K σ2 ρ2 n3 W3 H3 → Lc G σo ρo W1 H1 Dl acc n3 W3 H3 → T σ2 H3) (kF : ∀ n3 W3 H3, B n3 → Wle W' W3 → Lc G σo ρo W1 H1 Dl acc n3 W3 H3 → Nx H3) :
    g x (wipe σ vs) H2 fun σ2 H2 => wipe σ2 vs = wipe σ vs ∧ tTest (tOf G.quiet mt) σ2 H2 fun b H3 => if b = true then T σ2 H3 else Nx H3 := by
  obtain ⟨rA, gA⟩ := rel_al L.rel al
  have nown : ¬ Own σo ρo Dl := fun z => by
    obtain ⟨_, o, e⟩ := r1.own_out z
    rw [nD] at e; cases e
  obtain ⟨ws, hD, hws⟩ := L.at_
  have hD2 : H2 Dl = some (.lst ws) := al.kp Dl _ hD
  have oD2 : Out W2 Dl := al.out Dl _ hD L.out
  have goA : GoE σo ρo W1 H1 ρo W2 H2 := L.go.trans gA
  have rI : Rel G.K σ ρ1 n' W2 H2 := rel_in rA rb sub0 (wb.trans al.le)
  refine hg _ _ _ _ ⟨wipeD ρ1 vs, n', W2, d, _, rel_wipe rI vs, dd, h, fun ρ2 σ2 q2 r2 f2 o2 l2 => ?_⟩
  have sub : Sub σo ρo σ2 ρ2 := sub0.trans (sub_tg sub_wipe f2 o2)
  have hw : wipe σ2 vs = wipe σ vs := by
    have e1 : wipe σ2 vs = wipe (wipe σ vs) vs := wipe_eq l2 fun j hj => (f2 j fun z => hj (hts j z)).1
    have e2 : wipe (wipe σ vs) vs = wipe σ vs := wipe_eq (wipe_length σ vs) fun j hj => wipe_get hj
    exact e1.trans e2
  have nown2 : ¬ Own σ2 ρ2 Dl := fun z => nown (sub.own z)
  refine ⟨hw, ?_⟩
  simp only [toB_eq] at q2
  refine of_test (G := G.quiet) r2 (xl0 (G := G.quiet)) q2 fun c ρ3 n3 H3 W3 h3 r3 g3 x3 => ?_
  obtain ⟨e3, h3⟩ := h3
  subst e3
  obtain ⟨hD3, oD3⟩ := g3.go.fr Dl _ hD2 oD2 nown2
  have dw3 : DRs G.K W3 ws acc := (hws.mono al.le).mono g3.go.le
  obtain ⟨rB, gB⟩ := rel_back rA sub r3 g3.go
  have L3 : Lc G σo ρo W1 H1 Dl acc n3 W3 H3 := ⟨rB, goA.trans gB, ⟨ws, hD3, dw3⟩, oD3⟩
  have wl : Wle W' W3 := al.le.trans g3.go.le
  exact wIf.ite ⟨fun ec => kT σ2 ρ3 n3 W3 H3 (h3.1 ec) wl sub r3 L3, fun ec => kF n3 W3 H3 (h3.2 ec) wl L3⟩
/-- the element of a turn -/
theorem lc_elem {me : M} {σ2 σo : L2.St} {ρ2 ρo : List S} {n1 n3 : Nat} {W1 W3 : Wd} {H1 H3 : Hp} {Dl : Addr} {acc : List D} {Kx : List D → Nat → Prop} {Nx : Hp → Prop} (r1 : Rel G.K σo ρo n1 W1 H1) (nD : H1 Dl = none) (sub : Sub σo ρo σ2 ρ2) (r3 : Rel G.K σ2 ρ2 n3 W3 H3) (L : Lc G σo ρo W1 H1 Dl acc n3 W3 H3)
    (h : me ρ2 n3 (fun t ρ4 n4 => ρ4 = ρ2 ∧ toD t fun e => acc.length < 1000000 ∧ Kx (acc ++ [e]) n4) RX0) (k : ∀ acc' n4 W4 H4, Kx acc' n4 → Wle W3 W4 → Lc G σo ρo W1 H1 Dl acc' n4 W4 H4 → Nx H4) :
    tOf G.quiet me σ2 H3 fun y H4 => ∃ acc, H4 Dl = some (.lst acc) ∧ acc.length < sizeLine ∧ Nx (upd H4 Dl (.lst (acc ++ [y]))) := by
  have nown : ¬ Own σo ρo Dl := fun z => by
    obtain ⟨_, o, e⟩ := r1.own_out z
    rw [nD] at e; cases e
  have nown2 : ¬ Own σ2 ρ2 Dl := fun z => nown (sub.own z)
  obtain ⟨ws, hD, hws⟩ := L.at_
  simp only [toD_eq] at h
  refine of_bindD (G := G.quiet) r3 (xl0 (G := G.quiet)) h fun el ρ4 n4 y H4 W4 h4 r4 g4 d4 x4 => ?_
  obtain ⟨e4, hl, hK⟩ := h4
  subst e4
  obtain ⟨hD4, oD4⟩ := g4.go.fr Dl _ hD L.out nown2
  refine ⟨ws, hD4, by rw [hws.length]; exact small_line hl, ?_⟩
  obtain ⟨rB, gB⟩ := rel_back L.rel sub r4 g4.go
  refine k _ n4 W4 _ hK g4.go.le ⟨rel_fill rB oD4 nown, ?_, ⟨ws ++ [y], upd_same, (hws.mono g4.go.le).append (.cons d4 .nil)⟩, oD4⟩
  have gC := L.go.trans gB
  refine ⟨⟨gC.go.le, fun z o hz hoz hn => ?_, fun z o hz => ?_, gC.go.ow⟩, gC.ns⟩
  · obtain ⟨a1, a2⟩ := gC.go.fr z o hz hoz hn
    exact ⟨by rw [upd_ne (ne_of_none hz nD)]; exact a1, a2⟩
  · obtain ⟨o1, a1⟩ := gC.go.tr z o hz
    exact ⟨o1, by rw [upd_ne (ne_of_none hz nD)]; exact a1⟩
theorem lc_turn {ts vs : List Nat} {gt : D → List S → (List S → Prop) → Prop} {g : TG} {mt me : M} {σ σo : L2.St} {ρ1 ρo : List S} {n1 n' nb : Nat} {W1 W' W2 Wb : Wd} {H1 H' H2 Hb : Hp} {Dl : Addr} {acc : List D} {d : D} {x : V} {Kx : List D → Nat → Prop} {Nx : Hp → Prop}
    (hts : ∀ j ∈ ts, j ∈ vs) (r1 : Rel G.K σo ρo n1 W1 H1) (nD : H1 Dl = none) (L : Lc G σo ρo W1 H1 Dl acc n' W' H') (sub0 : Sub σo ρo σ ρ1) (rb : Rel G.K σ ρ1 nb Wb Hb) (wb : Wle Wb W') (al : Al W' H' n' W2 H2) (dd : DR G.K W2 x d) (h : lcTurn gt mt me (wipeD ρ1 vs) d acc n' Kx)
    (hg : ∀ v σ H Q, tgOf G.quiet ts gt v σ H Q → g v σ H Q) (k : ∀ acc' n3 W3 H3, Kx acc' n3 → Wle W' W3 → Lc G σo ρo W1 H1 Dl acc' n3 W3 H3 → Nx H3) :
    g x (wipe σ vs) H2 fun σ2 H2 => wipe σ2 vs = wipe σ vs ∧ tTest (tOf G.quiet mt) σ2 H2 fun b H3 => if b = true then tOf G.quiet me σ2 H3 fun y H4 => ∃ acc, H4 Dl = some (.lst acc) ∧ acc.length < sizeLine ∧ Nx (upd H4 Dl (.lst (acc ++ [y]))) else Nx H3 :=
  lc_head hts r1 nD L sub0 rb wb al dd h hg (fun σ2 ρ2 n3 W3 H3 hA wl sub r3 L3 => lc_elem r1 nD sub r3 L3 hA fun acc' n4 W4 H4 hK w4 L4 => k acc' n4 W4 H4 hK (wl.trans w4) L4) fun n3 W3 H3 hB wl L3 => k acc n3 W3 H3 hB wl L3
theorem lc_start {σ : L2.St} {ρ1 : List S} {n1 : Nat} {W1 : Wd} {H1 : Hp} {Dl : Addr} (r1 : Rel G.K σ ρ1 n1 W1 H1) (nD : H1 Dl = none) : Lc G σ ρ1 W1 H1 Dl [] n1 W1 (upd H1 Dl (.lst [])) := by
  have al := Al.lst r1.ok nD (.lst [])
  exact ⟨(rel_al r1 al).1, (rel_al r1 al).2, ⟨[], upd_same, .nil⟩, r1.ok.out_of_none nD⟩
theorem lc_read {mi : MI} {ts vs : List Nat} {gt : D → List S → (List S → Prop) → Prop} {g : TG} {mt me : M} (hts : ∀ j ∈ ts, j ∈ vs) (hg : ∀ v σ H Q, tgOf G.quiet ts gt v σ H Q → g v σ H Q) {σ : L2.St} {H : Hp} {Q : VK} (h : tOf G (mLc mi gt mt me vs) σ H Q) :
    tLc (tiOf G mi) g (tTest (tOf G.quiet mt)) (tOf G.quiet me) vs σ H Q := by
  obtain ⟨ρ, n, W, R, RX, r, hm, l, x⟩ := h
  refine ⟨ρ, n, W, _, RX, r, hm, fun ds ρ1 n1 J H1 W1 h1 r1 g1 wk Dl nD => ?_, x⟩
  refine ⟨fun i k H' => ∃ n' W' acc, Lc G σ ρ1 W1 H1 Dl acc n' W' H' ∧ i ≤ ds.length ∧ k = ds.length - i ∧ lcL gt mt me (wipeD ρ1 vs) (fun acc n2 => R (.own acc) ρ1 n2) (ds.drop i) acc n', ⟨ds.length, n1, W1, [], lc_start r1 nD, Nat.zero_le _, rfl, h1⟩, ?_⟩
  rintro i k H' ⟨n', W', acc, L, hi, rfl, hf⟩
  by_cases hlt : i < ds.length
  · right
    refine ⟨wk.go i W' H' n' hlt L.go.go.le L.rel.ok, fun H2 => ∃ n2 W2 acc2, Lc G σ ρ1 W1 H1 Dl acc2 n2 W2 H2 ∧ lcL gt mt me (wipeD ρ1 vs) (fun acc n2 => R (.own acc) ρ1 n2) (ds.drop (i + 1)) acc2 n2, fun H2 ⟨n2, W2, acc2, a1, a2⟩ => ⟨ds.length - (i + 1), by omega, n2, W2, acc2, a1, hlt, rfl, a2⟩, fun y H2 hy => ?_⟩
    obtain ⟨d, W2, ed, al, dd⟩ := wk.yld i W' H' n' y H2 L.go.go.le L.rel.ok hy hlt
    have e0 : ds.drop i = d :: ds.drop (i + 1) := by
      rw [List.drop_eq_getElem_cons hlt]
      rw [List.getElem?_eq_getElem hlt] at ed
      cases ed; rfl
    rw [e0] at hf
    exact lc_turn hts r1 nD L (Sub.refl _ _) r1 L.go.go.le al dd hf hg fun acc' n3 W3 H3 hk _ L3 => ⟨n3, W3, acc', L3, hk⟩
  · left
    have e : ds.drop i = [] := List.drop_of_length_le (by omega)
    rw [e] at hf
    refine ⟨wk.stop i W' H' n' (by omega) L.go.go.le L.rel.ok, ?_⟩
    obtain ⟨ws, hD, hws⟩ := L.at_
    exact l (.own acc) ρ1 n' (.ref Dl) H' W' hf L.rel (g1.trans L.go) ⟨Dl, rfl, ⟨ws, hD, hws⟩, L.out, g1.go.free nD⟩
theorem o_lc {mi : MI} {ts vs : List Nat} {gt : D → List S → (List S → Prop) → Prop} {mt me : M} (hts : ∀ j ∈ ts, j ∈ vs) (h : PE X e (tLc (tiOf G mi) (tgOf G.quiet ts gt) (tTest (tOf G.quiet mt)) (tOf G.quiet me) vs)) : PE X e (tOf G (mLc mi gt mt me vs)) :=
  pe_imp h fun σ H Q h => lc_read hts (fun _ _ _ _ z => z) h
/-! two clauses -/
def lc2L (gt : D → List S → (List S → Prop) → Prop) (mt : M) (mi1 : MI) (gt1 : D → List S → (List S → Prop) → Prop) (mt1 me : M) (ρ : List S) (vs1 : List Nat) (Kx : List D → Nat → Prop) : List D → List D → Nat → Prop
  | [], acc, n => Kx acc n
  | d :: ds, acc, n => gt d ρ fun ρ2 => mt ρ2 n (fun s ρ3 n3 => ρ3 = ρ2 ∧ toB s fun c => wIf c (mi1 ρ2 n3 (fun es ρ4 n4 => ρ4 = ρ2 ∧ lcL gt1 mt1 me (wipeD ρ2 vs1) (fun acc' n' => lc2L gt mt mi1 gt1 mt1 me ρ vs1 Kx ds acc' n') es acc n4) RX0) (lc2L gt mt mi1 gt1 mt1 me ρ vs1 Kx ds acc n3)) RX0
def mLc2 (mi : MI) (gt : D → List S → (List S → Prop) → Prop) (mt : M) (mi1 : MI) (gt1 : D → List S → (List S → Prop) → Prop) (mt1 me : M) (vs vs1 : List Nat) : M := fun ρ n R RX => mi ρ n (fun ds ρ1 n1 => lc2L gt mt mi1 gt1 mt1 me (wipeD ρ1 vs) vs1 (fun acc n2 => R (.own acc) ρ1 n2) ds [] n1) RX
theorem lc2_read {mi mi1 : MI} {ts vs ts1 vs1 : List Nat} {gt gt1 : D → List S → (List S → Prop) → Prop} {mt mt1 me : M} (hts : ∀ j ∈ ts, j ∈ vs) (hts1 : ∀ j ∈ ts1, j ∈ vs1) {σ : L2.St} {H : Hp} {Q : VK} (h : tOf G (mLc2 mi gt mt mi1 gt1 mt1 me vs vs1) σ H Q) :
    tLc2 (tiOf G mi) (tgOf G.quiet ts gt) (tTest (tOf G.quiet mt)) (tiOf G.quiet mi1) (tgOf G.quiet ts1 gt1) (tTest (tOf G.quiet mt1)) (tOf G.quiet me) vs vs1 σ H Q := by
  obtain ⟨ρ, n, W, R, RX, r, hm, l, x⟩ := h
  refine ⟨ρ, n, W, _, RX, r, hm, fun ds ρ1 n1 J H1 W1 h1 r1 g1 wk Dl nD => ?_, x⟩
  refine ⟨fun i k H' => ∃ n' W' acc, Lc G σ ρ1 W1 H1 Dl acc n' W' H' ∧ i ≤ ds.length ∧ k = ds.length - i ∧ lc2L gt mt mi1 gt1 mt1 me (wipeD ρ1 vs) vs1 (fun acc n2 => R (.own acc) ρ1 n2) (ds.drop i) acc n', ⟨ds.length, n1, W1, [], lc_start r1 nD, Nat.zero_le _, rfl, h1⟩, ?_⟩
  rintro i k H' ⟨n', W', acc, L, hi, rfl, hf⟩
  by_cases hlt : i < ds.length
  · right
    refine ⟨wk.go i W' H' n' hlt L.go.go.le L.rel.ok, fun H2 => ∃ n2 W2 acc2, Lc G σ ρ1 W1 H1 Dl acc2 n2 W2 H2 ∧ lc2L gt mt mi1 gt1 mt1 me (wipeD ρ1 vs) vs1 (fun acc n2 => R (.own acc) ρ1 n2) (ds.drop (i + 1)) acc2 n2, fun H2 ⟨n2, W2, acc2, a1, a2⟩ => ⟨ds.length - (i + 1), by omega, n2, W2, acc2, a1, hlt, rfl, a2⟩, fun y H2 hy => ?_⟩
    obtain ⟨d, W2, ed, al, dd⟩ := wk.yld i W' H' n' y H2 L.go.go.le L.rel.ok hy hlt
    have e0 : ds.drop i = d :: ds.drop (i + 1) := by
      rw [List.drop_eq_getElem_cons hlt]
      rw [List.getElem?_eq_getElem hlt] at ed
      cases ed; rfl
    rw [e0] at hf
    refine lc_head hts r1 nD L (Sub.refl _ _) r1 L.go.go.le al dd hf (fun _ _ _ _ z => z) (fun σ2 ρ2 n3 W3 H3 hA wl sub r3 L3 => ?_) fun n3 W3 H3 hB _ L3 => ⟨n3, W3, acc, L3, hB⟩
    refine ⟨ρ2, n3, W3, _, RX0, r3, hA, fun es ρ4 n4 J1 H4 W4 h4 r4 g4 wk1 => ?_, xl0 (G := G.quiet)⟩
    obtain ⟨e4, h4⟩ := h4
    subst e4
    -- behind the second source
    have nown : ¬ Own σ ρ1 Dl := fun z => by
      obtain ⟨_, o, e⟩ := r1.own_out z
      rw [nD] at e; cases e
    obtain ⟨ws, hD, hws⟩ := L3.at_
    obtain ⟨hD4, oD4⟩ := g4.go.fr Dl _ hD L3.out fun z => nown (sub.own z)
    obtain ⟨rB, gB⟩ := rel_back L3.rel sub r4 g4.go
    have L4 : Lc G σ ρ1 W1 H1 Dl acc n4 W4 H4 := ⟨rB, L3.go.trans gB, ⟨ws, hD4, hws.mono g4.go.le⟩, oD4⟩
    refine ⟨fun j k' H5 => ∃ n5 W5 acc5, Lc G σ ρ1 W1 H1 Dl acc5 n5 W5 H5 ∧ Wle W4 W5 ∧ j ≤ es.length ∧ k' = es.length - j ∧ lcL gt1 mt1 me (wipeD ρ4 vs1) (fun acc' n' => lc2L gt mt mi1 gt1 mt1 me (wipeD ρ1 vs) vs1 (fun acc n2 => R (.own acc) ρ1 n2) (ds.drop (i + 1)) acc' n') (es.drop j) acc5 n5,
      ⟨es.length, n4, W4, acc, L4, Wle.refl _, Nat.zero_le _, rfl, h4⟩, ?_⟩
    rintro j k' H5 ⟨n5, W5, acc5, L5, w5, hj, rfl, hf5⟩
    by_cases hjt : j < es.length
    · right
      refine ⟨wk1.go j W5 H5 n5 hjt w5 L5.rel.ok, fun H6 => ∃ n6 W6 acc6, Lc G σ ρ1 W1 H1 Dl acc6 n6 W6 H6 ∧ Wle W4 W6 ∧ lcL gt1 mt1 me (wipeD ρ4 vs1) (fun acc' n' => lc2L gt mt mi1 gt1 mt1 me (wipeD ρ1 vs) vs1 (fun acc n2 => R (.own acc) ρ1 n2) (ds.drop (i + 1)) acc' n') (es.drop (j + 1)) acc6 n6,
        fun H6 ⟨n6, W6, acc6, a1, a2, a3⟩ => ⟨es.length - (j + 1), by omega, n6, W6, acc6, a1, a2, hjt, rfl, a3⟩, fun y2 H6 hy2 => ?_⟩
      obtain ⟨d2, W6, ed2, al2, dd2⟩ := wk1.yld j W5 H5 n5 y2 H6 w5 L5.rel.ok hy2 hjt
      have e2 : es.drop j = d2 :: es.drop (j + 1) := by
        rw [List.drop_eq_getElem_cons hjt]
        rw [List.getElem?_eq_getElem hjt] at ed2
        cases ed2; rfl
      rw [e2] at hf5
      exact lc_turn hts1 r1 nD L5 sub r4 w5 al2 dd2 hf5 (fun _ _ _ _ z => z) fun acc' n6 W6 H6 hk w6 L6 => ⟨n6, W6, acc', L6, w5.trans w6, hk⟩
    · left
      have e : es.drop j = [] := List.drop_of_length_le (by omega)
      rw [e] at hf5
      exact ⟨wk1.stop j W5 H5 n5 (by omega) w5 L5.rel.ok, n5, W5, acc5, L5, hf5⟩
  · left
    have e : ds.drop i = [] := List.drop_of_length_le (by omega)
    rw [e] at hf
    refine ⟨wk.stop i W' H' n' (by omega) L.go.go.le L.rel.ok, ?_⟩
    obtain ⟨ws, hD, hws⟩ := L.at_
    exact l (.own acc) ρ1 n' (.ref Dl) H' W' hf L.rel (g1.trans L.go) ⟨Dl, rfl, ⟨ws, hD, hws⟩, L.out, g1.go.free nD⟩
theorem o_lc2 {mi mi1 : MI} {ts vs ts1 vs1 : List Nat} {gt gt1 : D → List S → (List S → Prop) → Prop} {mt mt1 me : M} (hts : ∀ j ∈ ts, j ∈ vs) (hts1 : ∀ j ∈ ts1, j ∈ vs1)
    (h : PE X e (tLc2 (tiOf G mi) (tgOf G.quiet ts gt) (tTest (tOf G.quiet mt)) (tiOf G.quiet mi1) (tgOf G.quiet ts1 gt1) (tTest (tOf G.quiet mt1)) (tOf G.quiet me) vs vs1)) : PE X e (tOf G (mLc2 mi gt mt mi1 gt1 mt1 me vs vs1)) :=
  pe_imp h fun σ H Q h => lc2_read hts hts1 h
theorem s_setLc2 {i : Nat} {mi mi1 : MI} {ts vs ts1 vs1 : List Nat} {gt gt1 : D → List S → (List S → Prop) → Prop} {mt mt1 me : M} (hts : ∀ j ∈ ts, j ∈ vs) (hts1 : ∀ j ∈ ts1, j ∈ vs1)
    (h : PS X st (tAsg (tLc2 (tiOf G mi) (tgOf G.quiet ts gt) (tTest (tOf G.quiet mt)) (tiOf G.quiet mi1) (tgOf G.quiet ts1 gt1) (tTest (tOf G.quiet mt1)) (tOf G.quiet me) vs vs1) (gName i))) : PS X st (tsOf G (sAsg i (mLc2 mi gt mt mi1 gt1 mt1 me vs vs1))) :=
  ps_imp h fun D σ H h => lc2_read hts hts1 (s_asg_read h)
/-- name = [..] on one line -/
theorem s_setLc {i : Nat} {mi : MI} {ts vs : List Nat} {gt : D → List S → (List S → Prop) → Prop} {mt me : M} (hts : ∀ j ∈ ts, j ∈ vs) (h : PS X st (tAsg (tLc (tiOf G mi) (tgOf G.quiet ts gt) (tTest (tOf G.quiet mt)) (tOf G.quiet me) vs) (gName i))) : PS X st (tsOf G (sAsg i (mLc mi gt mt me vs))) :=
  ps_imp h fun D σ H h => lc_read hts (fun _ _ _ _ z => z) (s_asg_read h)
end
end PL

set_option Elab.async false
set_option linter.all false
set_option maxRecDepth 100000
set_option maxHeartbeats 4000000
namespace PL
open PySem L2
open PyProof.Rows (envOfC AllBare)

/-! ### functions: promises over data -/
/-- arguments, draws so far, what is wanted of the result, of an exception -/
abbrev SpD := List D → Nat → (S → Nat → Prop) → XR → Prop
def toSp (K : PySem.W.Frag) (mg : Str → Option Value) (f : SpD) : Sp := fun vs H Q E => ∃ ds n W R RX, WOk W H n ∧ DRs K W vs ds ∧ f ds n R RX ∧
  (∀ s n' v H' W', R s n' → WOk W' H' n' → Go [] [] W H [] [] W' H' → RS K W' H H' v s → Q v H') ∧ XL ⟨K, mg, E⟩ [] [] W H RX
/-- a def's promise, where no repr is under way -/
structure FnG (P : Program) (w : World) (K : PySem.W.Frag) (mg : Str → Option Value) (base : Heap) (CX : CXT) (k : Nat) (f : Addr) (fd : FuncData) (ps : List Str) (sp : Sp) : Prop where
  len : ∀ vs H Q E, sp vs H Q E → vs.length = ps.length
  run : ∀ (A : Around) (outer : List Env) (s : Shared) (H : Hp) (args : Args) (us : List Value) (vs : List V) (Q : VK) (E : XK), A.guards = some [] → Room k A →
    Env0 P w K mg base A outer s H → BindsTo s fd args (ps.zip us) → Vals vs us → sp vs H Q E → codeAny (model P w) A (.call (.ref f) args) (CR CX outer P w H s Q E) s
section
variable {P : Program} {w : World} {K : PySem.W.Frag} {mg : Str → Option Value} {base : Heap} {CX : CXT} {k j : Nat} {f : Addr} {fd : FuncData} {ps N : List Str} {sp : Sp}
theorem FnG.mono (F : FnG P w K mg base CX j f fd ps sp) (h : j ≤ k) : FnG P w K mg base CX k f fd ps sp :=
  ⟨F.len, fun A outer s H args us vs Q E hg hr => F.run A outer s H args us vs Q E hg (hr.mono h)⟩
/-- a weaker promise -/
theorem FnG.imp {F G : SpD} (h : FnG P w K mg base CX k f fd ps (toSp K mg F)) (i : ∀ ds n R RX, G ds n R RX → F ds n R RX) : FnG P w K mg base CX k f fd ps (toSp K mg G) := by
  have up : ∀ vs H Q E, toSp K mg G vs H Q E → toSp K mg F vs H Q E := fun vs H Q E ⟨ds, n, W, R, RX, a, b, c, d⟩ => ⟨ds, n, W, R, RX, a, b, i _ _ _ _ c, d⟩
  exact ⟨fun vs H Q E q => h.len vs H Q E (up _ _ _ _ q), fun A outer s H args us vs Q E hg hr e0 hb rv q => h.run A outer s H args us vs Q E hg hr e0 hb rv (up _ _ _ _ q)⟩
theorem room_u {k : Nat} {A : Around} (r : Room k A) : A.units + 100 < cLine := by have := r.un; omega
theorem room_hd {k : Nat} {A : Around} (r : Room k A) : A.handled = none := r.hd
/-- a def by its body -/
theorem fn_g {x qual : Str} {st : Stmt} (F : Fun K x qual st f fd) (S : FnScope N ps (defScope st)) (len : ∀ vs H Q E, sp vs H Q E → vs.length = ps.length)
    (body : ∀ (cdv : Value) (A : Around) (outer : List Env) (s : Shared) (H : Hp) (vs : List V) (Q : VK) (E : XK), A.guards = some [] → Room k (A.deeper (envOfC qual (defScope st) s.heap.objs.size f cdv)) → sp vs H Q E →
      ∃ t, PSs (cxOf CX P w K mg base N qual (defScope st) f cdv A outer s H E) (defBody st) t ∧ t { nx := fun _ H' => Q .non H', rt := Q } (L2.start N vs) H) :
    FnG P w K mg base CX (k + 1) f fd ps sp := by
  obtain ⟨oc, od, kV, doc, pm, an, cdv, ct, osl, rfl, lk, hcd⟩ := F.ex
  constructor
  · exact len
  intro A outer s H args us vs Q E hg hr e0 hb rv hsp
  have inK : K.In s.heap := e0.mod.kin.keeps (fun b o z => (e0.bs b o z).1)
  have noL : s.heap.NoLimit := e0.mod.nolimit.keeps (fun b o z => (e0.bs b o z).1)
  have kinds : ∀ y ∈ ps.zip us, (defScope st).names.lookup y.1 = some .local ∨
      ((defScope st).names.lookup y.1 = some .cell ∧ ((cellsFrom (s.heap.objs.size + 1) (defScope st).names []).lookup y.1).isSome = true) := by
    rintro ⟨y, v⟩ hy
    rcases S.par y (List.of_mem_zip hy).1 with q | q
    · exact Or.inl q
    · exact Or.inr ⟨q, PySem.W.cellsFrom_some _ _ _ (Or.inl q)⟩
  have run : ∀ (env : Env) (s1 : Shared), env = envOfC qual (defScope st) s.heap.objs.size f cdv →
      InCallC s s.heap.objs.size (bindL (envOfC qual (defScope st) s.heap.objs.size f cdv).kindOf (ps.zip us) fun _ => none) (cellsFrom (s.heap.objs.size + 1) (defScope st).names [])
        (bindC (envOfC qual (defScope st) s.heap.objs.size f cdv).kindOf (ps.zip us) fun _ => none) s1 →
      wpAny (model P w) (A.deeper env) (execs (defBody st) env) (fun fl s' => CR CX outer P w H s Q E (match fl with | .ret u => .ok (.ret u) | _ => .ok (.ret .none)) s') (cxOf CX P w K mg base N qual (defScope st) f cdv A outer s H E).xe s1 := by
    rintro env s1 rfl x
    obtain ⟨t, ht, hq⟩ := body cdv A outer s H vs Q E hg (hr.deeper _) hsp
    have I := inv_start (CX := CX) (E := E) (N := N) S hr.hd e0 (len _ _ _ _ hsp) rv x
    refine wpAny_mono (ht.run [] s1 (L2.start N vs) H _ I hq) ?_ (fun e s' z => z)
    intro fl s' hs
    cases fl with
    | brk => obtain ⟨_, _, _, z⟩ := hs; exact False.elim z
    | cont => obtain ⟨_, _, _, z⟩ := hs; exact False.elim z
    | next => obtain ⟨σ', H', J, z⟩ := hs; exact ⟨V.non, H', J.os, J.bare, J.base, J.hok, rfl, z⟩
    | ret u => obtain ⟨v, σ', H', J, ru, z⟩ := hs; exact ⟨v, H', J.os, J.bare, J.base, J.hok, ru, z⟩
  refine codeAny_call_function hr.depth (inK _ _ lk) rfl S.co S.gen rfl (PySem.W.codeRec_of inK hcd) (hb _ _ _ _ ?_)
  refine wpAny_newFunctionEnv_cells S.kind kinds fun env he s1 x => ⟨?_, codeAny_func ?_⟩
  · exact noL.keeps x.toInCall.keep
  · subst he
    refine wpAny_mono (run _ s1 rfl x) (fun fl s' hs => ?_) (fun _ _ z => z)
    cases fl <;> exact hs
end

/-! ### a def over data -/
def startD (nN : Nat) (ds : List D) : List S := ds.map S.dat ++ List.replicate (nN - ds.length) .un
/-- a body's meaning as a promise -/
def fnM (np nN : Nat) (m : MS) : SpD := fun ds n R RX => ds.length = np ∧ m { nx := fun _ n' => R (.dat .non) n', rt := fun s _ n' => R s n', ex := RX } (startD nN ds) n
theorem rel_start {K : PySem.W.Frag} {N : List Str} {vs : List V} {ds : List D} {n : Nat} {W : Wd} {H : Hp} (ok : WOk W H n) (r : DRs K W vs ds) : Rel K (L2.start N vs) (startD N.length ds) n W H ∧ ∀ q, ¬ Own (L2.start N vs) (startD N.length ds) q := by
  have hl := r.length
  have key : ∀ (i : Nat) (s : S), (startD N.length ds)[i]? = some s → s = .un ∨ ∃ d v, s = .dat d ∧ ds[i]? = some d ∧ (L2.start N vs)[i]? = some (some v) ∧ DR K W v d := fun i s h => by
    unfold startD at h
    by_cases hi : i < ds.length
    · rw [List.getElem?_append_left (by simpa using hi), List.getElem?_map, List.getElem?_eq_getElem hi] at h
      cases h
      obtain ⟨v, h1, h2⟩ := r.get i (List.getElem?_eq_getElem hi)
      refine .inr ⟨_, v, rfl, List.getElem?_eq_getElem hi, ?_, h2⟩
      unfold L2.start
      rw [List.getElem?_append_left (by simp; omega), List.getElem?_map, h1]; rfl
    · rw [List.getElem?_append_right (by simpa using hi), List.getElem?_replicate] at h
      split at h
      · cases h; exact .inl rfl
      · cases h
  have nown : ∀ (i : Nat) (s : S), (startD N.length ds)[i]? = some s → ¬ s.isOwn := fun i s h o => by
    rcases key i s h with rfl | ⟨d, v, rfl, _⟩
    · exact o
    · exact o
  refine ⟨⟨ok, fun i s h => ?_, fun i j s t q h1 h2 h3 _ _ _ => absurd h3 (nown i s h1), ?_⟩, fun q ⟨i, s, h1, h2, _⟩ => nown i s h1 h2⟩
  · rcases key i s h with rfl | ⟨d, v, rfl, _, h1, h2⟩
    · trivial
    · exact ⟨v, h1, h2⟩
  · unfold startD L2.start
    simp only [List.length_append, List.length_map, List.length_replicate]
    omega
section
variable {P : Program} {w : World} {K : PySem.W.Frag} {mg : Str → Option Value} {base : Heap} {k : Nat} {f : Addr} {fd : FuncData} {ps N : List Str}
/-- the context of a body from which no exception leaves -/
abbrev bodyX (P : Program) (w : World) (K : PySem.W.Frag) (mg : Str → Option Value) (base : Heap) (N : List Str) (qual : Str) (st : Stmt) (f : Addr) (cdv : Value) (A : Around) (outer : List Env) (s : Shared) (H : Hp) : Cx :=
  (cxOf CX0 P w K mg base N qual (defScope st) f cdv A outer s H E0).nox
abbrev G0 (K : PySem.W.Frag) (mg : Str → Option Value) : Gx := ⟨K, mg, fun _ _ _ => False⟩
theorem fn_d {x qual : Str} {st : Stmt} {m : MS} (F : Fun K x qual st f fd) (SC : FnScope N ps (defScope st))
    (body : ∀ (cdv : Value) (A : Around) (outer : List Env) (s : Shared) (H : Hp), Ctx (bodyX P w K mg base N qual st f cdv A outer s H) (G0 K mg) → Room k (bodyX P w K mg base N qual st f cdv A outer s H).A →
      PSs (bodyX P w K mg base N qual st f cdv A outer s H) (defBody st) (tsOf (G0 K mg) m)) : FnG P w K mg base CX0 (k + 1) f fd ps (toSp K mg (fun ds n R RX => fnM ps.length N.length m ds n R fun _ _ _ => False)) := by
  refine fn_g F SC (fun vs H Q E h => ?_) fun cdv A outer s H vs Q E hg hr h => ?_
  · obtain ⟨ds, n, W, R, RX, _, hd, ⟨hl, _⟩, _⟩ := h
    rw [hd.length]; exact hl
  · obtain ⟨ds, n, W, R, RX, ok, hd, ⟨hl, hm⟩, hQ, hX⟩ := h
    have c : Ctx (bodyX P w K mg base N qual st f cdv A outer s H) (G0 K mg) := ⟨rfl, rfl, rfl, room_u hr, hg, SC.nd⟩
    refine ⟨_, (body cdv A outer s H c hr).nox, ?_⟩
    obtain ⟨r, no⟩ := rel_start (K := K) (N := N) ok hd
    have back : ∀ {σ' : L2.St} {ρ' : List S} {W' : Wd} {H' : Hp}, Go (L2.start N vs) (startD N.length ds) W H σ' ρ' W' H' → Go [] [] W H [] [] W' H' := fun g => ⟨g.le, fun a o ha ho _ => g.fr a o ha ho (no a), g.tr, fun p ⟨_, _, z, _⟩ => by simp at z⟩
    refine ⟨startD N.length ds, n, W, _, r, hm, ⟨fun ρ' n' σ' H' W' h r' g => ?_, fun s n' v H' W' σ' ρ' h ok' g hs => ?_, fun _ _ _ _ _ h => h.elim, fun _ _ _ _ _ h => h.elim, fun _ _ _ _ _ _ _ _ _ h => h.elim⟩⟩
    · exact hQ (.dat .non) n' .non H' W' h r'.ok (back g) DR.non
    · exact hQ s n' v H' W' h ok'.ok (back g) (hs.imp fun p z => z.elim (fun z => absurd z (no p)) id).rs
end

/-! ### calls -/
section
variable {X : Cx} {G : Gx} {CX : CXT} {k : Nat} {fa : Addr} {fd : FuncData} {ps : List Str} {f : SpD} {x : Str} {p pos : Pos} {e : Expr} {es : List Expr} {m : MA}
theorem run_g {pins : List (Addr × Obj)} {σ : L2.St} {H : Hp} {s : Shared} {Q : VK} {E : XK} {sp : Sp} {us : List Value} {vs : List V} (F : FnG X.prog X.w X.K X.mg X.base CX k fa fd ps sp) (hgd : X.A.guards = some []) (hr : Room k X.A) (hb : Binds X.K fd ps [])
    (hx : Passes CX X E) (I : Inv X pins σ H s) (r : Vals vs us) (h : sp vs H Q E) : wpAny (model X.prog X.w) X.A (call (.ref fa) us) (EP X pins σ Q) X.xe s := by
  have hl : us.length = ps.length := r.length.symm.trans (F.len _ _ _ _ h)
  have bt : BindsTo s fd ⟨us, []⟩ (ps.zip us) := by
    have z := hb s us I.kIn (by rw [List.append_nil]; exact hl)
    rw [List.append_nil] at z; exact z
  apply wpAny_call
  refine codeAny_mono (F.run X.A X.stack s H _ us vs Q E hgd hr I.env0 bt r h) fun r s' hq => ?_
  match r, hq with
  | .error ev, hq => exact hx pins σ H s ev s' I hq
  | .ok (.ret u), hq => exact I.after hq
def mCall (f : SpD) (m : MA) : M := fun ρ n R RX => m ρ n (fun ds ρ1 n1 => f ds n1 (fun s n2 => R s ρ1 n2) RX) RX
theorem rel_nil {K : PySem.W.Frag} {n : Nat} {W : Wd} {H : Hp} (ok : WOk W H n) : Rel K [] [] n W H := ⟨ok, fun i s h => by simp at h, fun i j s t q h => by simp at h, rfl⟩
/-- what a callee's promise asks, from the caller's -/
theorem call_sp {σ : L2.St} {H : Hp} {Q : VK} {ρ : List S} {n : Nat} {W : Wd} {R : RK} {RX : XR} {ds : List D} {vs : List V} (r : Rel G.K σ ρ n W H) (l : RL G σ ρ W H R Q) (x : XL G σ ρ W H RX) (hd : DRs G.K W vs ds) (h : f ds n (fun s n2 => R s ρ n2) RX) : toSp G.K G.mg f vs H Q G.E := by
  refine ⟨ds, n, W, _, RX, r.ok, hd, h, fun s n' v H' W' hR ok g hs => ?_, fun cn d n' C dx σ' ρ' W' H' hx ok g ex => ?_⟩
  · obtain ⟨r2, g2⟩ := rel_back r (fun j s h => by simp at h) (rel_nil ok) g
    exact l s ρ n' v H' W' hR r2 g2 hs
  · exact x cn d n' C dx [] [] W' H' hx ok ⟨g.le, fun a o ha ho _ => g.fr a o ha ho (fun ⟨_, _, z, _⟩ => by simp at z), g.tr, fun p ⟨_, _, z, _⟩ => by simp at z⟩ ex
theorem o_call (c : Ctx X G) (F : FnG X.prog X.w X.K X.mg X.base CX k fa fd ps (toSp X.K X.mg f)) (hr : Room k X.A) (hg : Gl X x) (hm : X.mg x = some (.ref fa)) (hk : PySem.W.keepIn X.K (.ref fa) = true) (hb : Binds X.K fd ps []) (hx : Passes CX X G.E) (ha : PA X (e :: es) (taOf G m))
    (hdb : (x == ("__debug__" : Str)) = false := by decide) (he : starEach (e :: es) X.env = (false, eval e X.env) :: starEach es X.env := by rfl) (hpl : (backTo pos (starEach es X.env)).any (·.1) = false := by rfl) : PE X (.Call (.Name x p) (e :: es) [] pos) (tOf G (mCall f m)) := by
  have h0 : PE X (.Call (.Name x p) (e :: es) [] pos) (fun σ H Q => taOf G m σ H fun vs H1 => toSp X.K X.mg f vs H1 Q G.E) := by
    constructor
    intro pins s σ H Q I h
    refine wpAny_Call_Name_kw (ld_glob I hg hm ?_ hdb)
    refine PySem.W.callWith_K (h₀ := X.base) I.ok.mod.kin hk (thn (ha.run pos pins s σ H _ I h) ?_) he hpl
    rintro us s1 ⟨vs, H1, I1, rv, q⟩
    exact ⟨I1.kIn, run_g F c.gd hr hb hx I1 rv q⟩
  refine pe_imp h0 fun σ H Q ⟨ρ, n, W, R, RX, r, hm', l, x'⟩ => of_args r x' hm' fun ds ρ1 n1 vs H1 W1 h1 r1 g1 d1 x1 => ?_
  have q := call_sp (f := f) r1 (l.go g1) x1 d1 h1
  rw [c.K, c.mg]
  exact q
end
/-! ### the law's end -/
def scriptD (ns : List Int) : D := .lst (ns.map D.int)
/-- the heap at the law's entry: the script at most -/
theorem script_heap {K : PySem.W.Frag} {P : Program} {w : World} {h : Heap} {a : Addr} {vs : List Value} {ns : List Int} (KX : K.In h) (ha : h.get? a = some { cls := .type "list", data := .seq vs.toArray }) (rv : Vals (ns.map V.int) vs) (hl : ns.length ≤ sizeLine) :
    ∃ H : Hp, Only H ∧ LsA K H a (ns.map V.int) ∧ HOk P w H h ∧ (∀ b, H b ≠ none → b = a ∧ K.lookup a = none) := by
  have lv : vs.length = ns.length := by rw [← rv.length, List.length_map]
  cases hk : K.lookup a with
  | some o =>
    have e := KX a o hk
    rw [ha] at e
    cases e
    exact ⟨fun _ => none, fun _ => .inl rfl, .inr ⟨vs.toArray, _, hk, by rw [List.size_toArray, lv]; exact hl, by simpa using rv⟩, (fun b u z => by cases (show (none : Option HO) = some u from z)), fun b z => absurd rfl z⟩
  | none =>
    refine ⟨upd (fun _ => none) a (.frz { cls := .type "list", data := .seq vs.toArray } (.lst (ns.map V.int))), fun b => ?_, .inl (.inr ⟨_, upd_same⟩), fun b u z => ?_, fun b z => ?_⟩
    · by_cases hb : b = a
      · subst hb; exact .inr ⟨_, _, upd_same⟩
      · exact .inl (upd_ne hb)
    · by_cases hb : b = a
      · subst hb
        rw [upd_same] at z; cases z
        exact ⟨ha, by rw [List.length_map]; exact hl, vs, _, rv, ha⟩
      · rw [upd_ne hb] at z; cases z
    · by_cases hb : b = a
      · exact ⟨hb, rfl⟩
      · exact absurd (upd_ne hb) z
theorem vals_of_ints : ∀ {vs : List Value} {ns : List Int}, PyProof.Rows.IntsAre vs ns → Vals (ns.map V.int) vs
  | _, _, .nil => .nil
  | _, _, .cons _ t h => .cons ⟨t, rfl⟩ (vals_of_ints h)
theorem law_run {P : Program} {w : World} {K : PySem.W.Frag} {mg mb : Str → Option Value} {k : Nat} {fa a : Addr} {fd : FuncData} {x : Str} {f : SpD} {s1 : Shared} {vs : List Value} {ns : List Int} (KX : K.In s1.heap) (hns : s1.heap.Ns mainGlobals mg) (hb : s1.heap.Ns builtinsNs mb)
    (hbb : ∀ x : Str, x ≠ "__name__" → mb x = bootBuiltins x) (hlim : s1.heap.NoLimit) (hg : s1.gens = #[]) (ha : s1.heap.get? a = some { cls := .type "list", data := .seq vs.toArray }) (hi : PyProof.Rows.IntsAre vs ns) (hl : ns.length ≤ sizeLine) (hr : Room k callerA)
    (F : ∀ base : Heap, K.In base → base.Ns mainGlobals mg → FnG P w K mg base CX0 k fa fd [x] (toSp K mg f)) (hbind : ∀ (s : Shared) (u : Value), BindsTo s fd ⟨[u], []⟩ [(x, u)])
    (hf : f [scriptD ns] 0 (fun s _ => s = .dat (.bl true)) fun _ _ _ => False) :
    codeAny (model P w) callerA (.call (.ref fa) ⟨[.ref a], []⟩) (fun r s' => r = .ok (.ret (.bool true)) ∧ OldK s1.heap s'.heap ∧ s'.os = s1.os ∧ AllBare s'.gens) s1 := by
  obtain ⟨H, only, hS, hok, hA⟩ := script_heap (P := P) (w := w) KX ha (vals_of_ints hi) hl
  have untr : ∀ {b : Addr} {o : Obj} {es : Array DictEntry} {ep : Nat}, s1.heap.get? b = some o → o.data = .dict es ep → H b = none := by
    intro b o es ep e d
    cases q : H b with
    | none => rfl
    | some u =>
      have e' := (hA b (by rw [q]; exact fun z => nomatch z)).1
      rw [e', ha] at e
      cases e
      cases (show Data.seq vs.toArray _ = Data.dict es ep from d)
  have nsB : ∀ {b : Addr} {m : Str → Option Value}, s1.heap.Ns b m → (hidT s1.heap H).Ns b m := by
    rintro b m ⟨o, es, ep, e, d, r⟩
    exact ⟨o, es, ep, hidT_get e (untr e d), d, r⟩
  have kB : K.In (hidT s1.heap H) := by
    intro b o e
    refine hidT_get (KX b o e) ?_
    cases q : H b with
    | none => rfl
    | some u =>
      obtain ⟨e1, e2⟩ := hA b (by rw [q]; exact fun z => nomatch z)
      rw [e1, e2] at e; cases e
  have hM : Mod K mg (hidT s1.heap H) := ⟨kB, nsB hns, ⟨mb, nsB hb, hbb⟩, by obtain ⟨mc, h1, h2⟩ := hlim; exact ⟨mc, nsB h1, h2⟩⟩
  have e0 : Env0 P w K mg (hidT s1.heap H) callerA [] s1 H := ⟨rfl, hM, (fun b o e => of_hidT e), Nat.le_of_eq (hidT_size _ _), trivial, (fun b z => by exact absurd (show b ∈ ([] : List Addr) from z) List.not_mem_nil), hok, .of_eq hg⟩
  have sp : toSp K mg f [.ref a] H (fun v _ => v = .bl true) (fun _ _ _ => False) := by
    refine ⟨[scriptD ns], 0, ⟨H, fun _ => False⟩, _, _, ⟨fun _ _ z => z, fun _ z => z.elim⟩, .cons (.lst hS (DRs.ints ns)) .nil, hf, ?_, fun _ _ _ _ _ _ _ _ _ z => z.elim⟩
    rintro s n' v H' W' rfl _ _ hs
    cases hs; rfl
  refine codeAny_mono ((F _ kB (nsB hns)).run callerA [] s1 H _ [.ref a] [.ref a] _ _ rfl hr e0 (hbind s1 _) (.cons rfl .nil) sp) ?_
  intro r s' h
  match r, h with
  | .error e, h => exact h.elim
  | .ok (.ret u), h =>
    obtain ⟨v, H', os, bare, un, hok', ru, q⟩ := h
    obtain rfl : v = .bl true := q
    obtain rfl : u = Value.bool true := ru
    refine ⟨rfl, OldK.of_keep ?_, os, bare⟩
    intro b o e
    cases q : H b with
    | none => exact un.keep b o e q (by exact fun z => List.not_mem_nil (show b ∈ ([] : List Addr) from z)) List.not_mem_nil
    | some u =>
      rcases only b with z | ⟨ob, xs, z⟩
      · rw [q] at z; cases z
      · have k1 := (hok b _ z).1
        have k2 := (hok' b _ (un.frzs b ob _ z)).1
        rw [e] at k1; cases k1
        exact k2
/-- the goal that k_head leaves, from the law's promise over data -/
theorem walk_d {l : PySem.W.OpenLaw} {n k : Nat} {q : Program} {loose : List Str} {XP : (Str → Option Value) → Heap → Prop} {YP : World → Heap → Prop} {d : DefRec} {K : Params → PySem.W.Frag} {f : SpD} {x : Str} (hn : l.most = some n) (hn2 : n ≤ sizeLine) (hdf : d.params.defaults = [])
    (hr : Room k callerA) (hY : ∀ (w : World) (h : Heap), YP w h → (K w.params).In h)
    (F : ∀ (w : World) (mg : Str → Option Value) (fa : Addr) (h : Heap), (K w.params).In h → h.Ns mainGlobals mg → mg d.name = some (.ref fa) → ∃ fd : FuncData, (∀ (s : Shared) (u : Value), BindsTo s fd ⟨[u], []⟩ [(x, u)]) ∧
      ∀ base : Heap, (K w.params).In base → base.Ns mainGlobals mg → FnG l.prog w (K w.params) mg base CX0 k fa fd [x] (toSp (K w.params) mg f))
    (hf : ∀ ns : List Int, ns.length ≤ n → f [scriptD ns] 0 (fun s _ => s = .dat (.bl true)) fun _ _ _ => False) : PySem.W.WalkO q loose XP YP l.row.toRowW d [] (fun f vs => PySem.call f vs) := by
  refine Att.attach_call hn hdf ?_
  intro w s0 s1 mg mb fa o pm cd doc a vs ns G Y ho hd hcd hmg hobj hints hlen hg
  obtain ⟨fd, hb, hF⟩ := F w mg fa _ (hY w _ Y) G.T.g hmg
  exact law_run (hY w _ Y) G.T.g G.T.b G.T.builtins G.T.nolimit hg hobj hints (Nat.le_trans hlen hn2) hr hF hb (hf ns hlen)
end PL

set_option Elab.async false
set_option linter.all false
set_option maxRecDepth 100000
set_option maxHeartbeats 4000000
namespace PL
open PySem L2
open PyProof.Rows (envOfC)

theorem Ctx.blk {X : Cx} {G : Gx} (c : Ctx X G) (s : Shared) (H : Hp) (sc : Scope) (cenv : Env) (fp : List Addr) : Ctx (X.blk s H sc cenv fp) G.quiet := ⟨c.K, c.mg, c.calm, c.un, c.gd, c.nd⟩

/-- a def of the text behind the top: where it stands, how its arguments bind -/
structure Def (K : PySem.W.Frag) (mg : Str → Option Value) (x : Str) (st : Stmt) (ps : List Str) (fa : Addr) (fd : FuncData) : Prop where
  fn : Fun K x x st fa fd
  mg : mg x = some (.ref fa)
  b : Binds K fd ps []
/-- a def that can be called: its promise over data -/
def Cal (P : Program) (w : World) (K : PySem.W.Frag) (mg : Str → Option Value) (base : Heap) (x : Str) (k : Nat) (ps : List Str) (f : SpD) : Prop :=
  ∃ fa fd, mg x = some (.ref fa) ∧ PySem.W.keepIn K (.ref fa) = true ∧ Binds K fd ps [] ∧ FnG P w K mg base CX0 k fa fd ps (toSp K mg f)
theorem Cal.imp {P : Program} {w : World} {K : PySem.W.Frag} {mg : Str → Option Value} {base : Heap} {x : Str} {k : Nat} {ps : List Str} {f g : SpD} (h : Cal P w K mg base x k ps f) (i : ∀ ds n R RX, g ds n R RX → f ds n R RX) : Cal P w K mg base x k ps g := by
  obtain ⟨fa, fd, a, b, c, d⟩ := h
  exact ⟨fa, fd, a, b, c, d.imp i⟩
theorem Cal.mono {P : Program} {w : World} {K : PySem.W.Frag} {mg : Str → Option Value} {base : Heap} {x : Str} {j k : Nat} {ps : List Str} {f : SpD} (h : Cal P w K mg base x j ps f) (i : j ≤ k) : Cal P w K mg base x k ps f := by
  obtain ⟨fa, fd, a, b, c, d⟩ := h
  exact ⟨fa, fd, a, b, c, d.mono i⟩
section
variable {X : Cx} {K : PySem.W.Frag} {mg : Str → Option Value} {k j : Nat} {ps : List Str} {f : SpD} {x : Str} {p pos : Pos} {e : Expr} {es : List Expr} {m : MA}
/-- f(e, ..) -/
theorem o_fn (c : Ctx X (G0 K mg)) (F : Cal X.prog X.w X.K X.mg X.base x j ps f) (hr : Room k X.A) (hg : Gl X x) (ha : PA X (e :: es) (taOf (G0 K mg) m)) (hj : j ≤ k := by decide)
    (hdb : (x == ("__debug__" : Str)) = false := by decide) (he : starEach (e :: es) X.env = (false, eval e X.env) :: starEach es X.env := by rfl) (hpl : (backTo pos (starEach es X.env)).any (·.1) = false := by rfl) : PE X (.Call (.Name x p) (e :: es) [] pos) (tOf (G0 K mg) (mCall f m)) := by
  obtain ⟨fa, fd, h1, h2, h3, h4⟩ := F
  exact o_call (G := G0 K mg) c h4 (hr.mono hj) hg h1 h2 h3 pass0 ha hdb he hpl
/-! keywords -/
def pick {α : Type} (pm : List Nat) (xs : List α) : List α := pm.filterMap (xs[·]?)
theorem DRs.pick {K : PySem.W.Frag} {W : Wd} {vs : List V} {ds : List D} (r : DRs K W vs ds) : ∀ pm : List Nat, DRs K W (PL.pick pm vs) (PL.pick pm ds)
  | [] => .nil
  | i :: pm => by
    have ih := DRs.pick r pm
    unfold PL.pick at ih ⊢
    rw [List.filterMap_cons, List.filterMap_cons]
    cases h : ds[i]? with
    | none =>
      have : vs[i]? = none := by rw [List.getElem?_eq_none_iff] at h ⊢; rw [r.length]; exact h
      rw [this]; exact ih
    | some d =>
      obtain ⟨v, h1, h2⟩ := r.get i h
      rw [h1]; exact .cons h2 ih
theorem vals_pick {vs : List V} {us : List Value} (r : Vals vs us) : ∀ pm : List Nat, Vals (PL.pick pm vs) (PL.pick pm us)
  | [] => .nil
  | i :: pm => by
    have ih := vals_pick r pm
    unfold PL.pick at ih ⊢
    rw [List.filterMap_cons, List.filterMap_cons]
    cases h : vs[i]? with
    | none => rw [r.none_of h]; exact ih
    | some v =>
      obtain ⟨u, h1, h2⟩ := r.get h
      rw [h1]; exact .cons h2 ih
/-- how keywords bind: which value each parameter takes -/
def KwB (fd : FuncData) (ps ks : List Str) (np : Nat) (pm : List Nat) : Prop := ∀ us ws : List Value, us.length = np → ws.length = ks.length → bindArgs fd ⟨us, ks.zip ws⟩ = pure (ps.zip (pick pm (us ++ ws)))
def CalK (P : Program) (w : World) (K : PySem.W.Frag) (mg : Str → Option Value) (base : Heap) (x : Str) (k : Nat) (ps ks : List Str) (np : Nat) (pm : List Nat) (f : SpD) : Prop :=
  ∃ fa fd, mg x = some (.ref fa) ∧ PySem.W.keepIn K (.ref fa) = true ∧ KwB fd ps ks np pm ∧ FnG P w K mg base CX0 k fa fd ps (toSp K mg f)
theorem k_nil {G : Gx} : PK X [] (taOf G aNil) := ⟨fun pos pins s σ H Q I h => (pk_nil (X := X)).run pos pins s σ H Q I (by
  obtain ⟨ρ, n, W, R, RX, r, h, l, x⟩ := h
  exact l [] ρ n [] H W h r (GoE.refl _ _ _ _) .nil)⟩
theorem k_cons {G : Gx} {ma : M} {kws : List Keyword} {nm : Option Str} {kpos : Pos} (ha : PE X e (tOf G ma)) (hr : PK X kws (taOf G m)) : PK X (⟨nm, e, kpos⟩ :: kws) (taOf G (aCons ma m)) := ⟨fun pos pins s σ H Q I h => (pk_cons ha hr).run pos pins s σ H Q I (by
  obtain ⟨ρ, n, W, R, RX, r, h, l, x⟩ := h
  exact of_bindD r x h fun d ρ1 n1 v H1 W1 h1 r1 g1 d1 x1 => of_args r1 x1 h1 fun ds ρ2 n2 vs H2 W2 h2 r2 g2 d2 x2 => l (d :: ds) ρ2 n2 (v :: vs) H2 W2 h2 r2 (g1.trans g2) (.cons (d1.mono g2.go.le) d2))⟩
def mCallK (f : SpD) (pm : List Nat) (nk : Nat) (ma mk : MA) : M := fun ρ n R RX => ma ρ n (fun ds ρ1 n1 => mk ρ1 n1 (fun es ρ2 n2 => es.length = nk ∧ f (pick pm (ds ++ es)) n2 (fun s n3 => R s ρ2 n3) RX) RX) RX
theorem run_k {pins : List (Addr × Obj)} {σ : L2.St} {H : Hp} {s : Shared} {Q : VK} {CX : CXT} {fa : Addr} {fd : FuncData} {E : XK} {sp : Sp} {ks : List Str} {np : Nat} {pm : List Nat} {us ws : List Value} {vs zs : List V} (F : FnG X.prog X.w X.K X.mg X.base CX k fa fd ps sp) (hgd : X.A.guards = some []) (hr : Room k X.A) (hb : KwB fd ps ks np pm)
    (hx : Passes CX X E) (I : Inv X pins σ H s) (r : Vals vs us) (rz : Vals zs ws) (hu : us.length = np) (hw : ws.length = ks.length) (h : sp (pick pm (vs ++ zs)) H Q E) : wpAny (model X.prog X.w) X.A (call (.ref fa) us (ks.zip ws)) (EP X pins σ Q) X.xe s := by
  have r2 := vals_pick (r.append rz) pm
  have bt : BindsTo s fd ⟨us, ks.zip ws⟩ (ps.zip (pick pm (us ++ ws))) := .of_eq (hb us ws hu hw)
  apply wpAny_call
  refine codeAny_mono (F.run X.A X.stack s H _ _ _ Q E hgd hr I.env0 bt r2 h) fun r s' hq => ?_
  match r, hq with
  | .error ev, hq => exact hx pins σ H s ev s' I hq
  | .ok (.ret u), hq => exact I.after hq
/-- f(k = e, ..) -/
theorem o_fnK0 {ks : List Str} {pm : List Nat} {kws : List Keyword} {mk : MA} (c : Ctx X (G0 K mg)) (F : CalK X.prog X.w X.K X.mg X.base x j ps ks 0 pm f) (hr : Room k X.A) (hg : Gl X x) (hkw : PK X kws (taOf (G0 K mg) mk)) (hj : j ≤ k := by decide)
    (hall : (backToKw pos (keywordEach kws X.env)).all (·.1.isSome) = true := by rfl) (hks : (backToKw pos (keywordEach kws X.env)).filterMap (·.1) = ks := by rfl) (hlen : kws.length = ks.length := by rfl)
    (hdb : (x == ("__debug__" : Str)) = false := by decide) (hpl : ((backTo pos (starEach [] X.env)).any (·.1) || (backToKw pos (keywordEach kws X.env)).any (·.1.isNone)) = false := by rfl) : PE X (.Call (.Name x p) [] kws pos) (tOf (G0 K mg) (mCallK f pm ks.length aNil mk)) := by
  obtain ⟨fa, fd, h1, h2, h3, h4⟩ := F
  have h0 : PE X (.Call (.Name x p) [] kws pos) (fun σ H Q => taOf (G0 K mg) mk σ H fun vs H1 => vs.length = ks.length ∧ toSp X.K X.mg f (pick pm ([] ++ vs)) H1 Q (G0 K mg).E) := by
    constructor
    intro pins s σ H Q I h
    refine wpAny_Call_Name_kw (ld_glob I hg h1 ?_ hdb)
    refine PySem.W.callWith_KW0 (h₀ := X.base) (first := []) I.ok.mod.kin h2 hall (thn (hkw.run pos pins s σ H _ I h) ?_) hpl
    rintro ws s1 ⟨zs, H1, I1, rz, hl, q⟩
    rw [hks]
    exact ⟨I1.kIn, run_k (us := []) (vs := []) h4 c.gd (hr.mono hj) h3 (E := (G0 K mg).E) pass0 I1 .nil rz rfl (by rw [← rz.length]; exact hl) q⟩
  refine pe_imp h0 fun σ H Q ⟨ρ, n, W, R, RX, r, hm', l, x'⟩ => of_args r x' hm' fun ds ρ1 n1 vs H1 W1 hh r1 g1 d1 x1 => ⟨by rw [d1.length]; exact hh.1, ?_⟩
  have q := call_sp (f := f) r1 (l.go g1) x1 (d1.pick pm) hh.2
  rw [c.K, c.mg]
  exact q
/-- a def's promise from its body -/
theorem def_ok {P : Program} {w : World} {base : Heap} {st : Stmt} {N : List Str} {ms : MS} {fa : Addr} {fd : FuncData} {g : SpD} (F : Def K mg x st ps fa fd) (SC : FnScope N ps (defScope st))
    (body : ∀ (cdv : Value) (A : Around) (outer : List Env) (s : Shared) (H : Hp), Ctx (bodyX P w K mg base N x st fa cdv A outer s H) (G0 K mg) → Room k (bodyX P w K mg base N x st fa cdv A outer s H).A →
      PSs (bodyX P w K mg base N x st fa cdv A outer s H) (defBody st) (tsOf (G0 K mg) ms))
    (sat : ∀ ds n R RX, g ds n R RX → fnM ps.length N.length ms ds n R fun _ _ _ => False) : Cal P w K mg base x (k + 1) ps g :=
  ⟨fa, fd, F.mg, F.fn.kp, F.b, (fn_d F.fn SC body).imp sat⟩
/-! list(range(..)) -/
def mLstRg (lo hi : Option M) : M := fun ρ n R RX => (match lo with
  | none => fun k => k 0 ρ n
  | some m => fun k => m ρ n (fun s ρ1 n1 => ∃ i : Int, s = .dat (.int i) ∧ k i ρ1 n1) RX : (Int → List S → Nat → Prop) → Prop) fun i ρ1 n1 => oPart hi ρ1 n1 (fun j ρ2 n2 => ∃ b : Int, j = some b ∧ 0 ≤ i ∧ i ≤ 1000000 ∧ 0 ≤ b ∧ b ≤ 1000000 ∧ R (.own (rngD i b)) ρ2 n2) RX
theorem drs_rng {K : PySem.W.Frag} {W : Wd} {a b : Int} : DRs K W (rgV a b) (rngD a b) := by
  unfold rgV rngD
  induction (List.range (b - a).toNat) with
  | nil => exact .nil
  | cons i l ih => exact .cons (.int _) ih
end
end PL

set_option Elab.async false
set_option linter.all false
set_option maxRecDepth 100000
set_option maxHeartbeats 4000000
namespace PL
open PySem L2
section
variable {X : Cx} {G : Gx} {e a b : Expr} {ma mb : M} {pos p : Pos}
/-! ### list(range(..)) -/
def mLstR1 (ma : M) : M := fun ρ n R RX => ma ρ n (fun s ρ1 n1 => toD s fun d => ∃ j : Int, d = .int j ∧ 0 ≤ j ∧ j ≤ 1000000 ∧ R (.own (rngD 0 j)) ρ1 n1) RX
theorem o_lstR1 (h : PE X e (tLstRg (tRg1 (tOf G ma)))) : PE X e (tOf G (mLstR1 ma)) := pe_imp h fun σ H Q ⟨ρ, n, W, R, RX, r, hm, l, x⟩ =>
  of_bindD r x hm fun d ρ1 n1 v H1 W1 h1 r1 g1 d1 x1 => by
    obtain ⟨j, rfl, b1, b2, hR⟩ := h1
    cases d1
    exact ⟨j, rfl, ⟨by omega, by omega, by omega, by omega, by omega⟩, fun q nq => (vpost_of r1 (l.go g1)).lst r1.ok hR drs_rng nq⟩
def mLstR2 (ma mb : M) : M := fun ρ n R RX => ma ρ n (fun s ρ1 n1 => toD s fun c => mb ρ1 n1 (fun t ρ2 n2 => toD t fun d => ∃ i j : Int, c = .int i ∧ d = .int j ∧ 0 ≤ i ∧ i ≤ 1000000 ∧ 0 ≤ j ∧ j ≤ 1000000 ∧ R (.own (rngD i j)) ρ2 n2) RX) RX
theorem o_lstR2 (h : PE X e (tLstRg (tRg2 (tOf G ma) (tOf G mb)))) : PE X e (tOf G (mLstR2 ma mb)) := pe_imp h fun σ H Q ⟨ρ, n, W, R, RX, r, hm, l, x⟩ =>
  of_bindD r x hm fun c ρ1 n1 v H1 W1 h1 r1 g1 d1 x1 => of_bindD r1 x1 h1 fun d ρ2 n2 u H2 W2 h2 r2 g2 d2 x2 => by
    obtain ⟨i, j, rfl, rfl, b1, b2, b3, b4, hR⟩ := h2
    cases d1; cases d2
    exact ⟨i, j, rfl, rfl, ⟨by omega, by omega, by omega, by omega, by omega⟩, fun q nq => (vpost_of r2 (l.go (g1.trans g2))).lst r2.ok hR drs_rng nq⟩

/-! ### sorted, of tuples of ints -/
def tupI (l : List Int) : D := .tup (l.map D.int)
/-- a stands at or ahead of b -/
def lexLe (a b : List Int) : Prop := HT.lexLt b a = false
theorem lex_of_code {B : Int} : ∀ {a b : List Int}, a.length = b.length → TS.Bd B a → TS.Bd B b → TS.code B a ≤ TS.code B b → lexLe a b
  | [], [], _, _, _, _ => rfl
  | x :: r, y :: q, hl, h1, h2, h => by
    have hl' : r.length = q.length := by simpa using hl
    unfold lexLe
    rw [HT.lexLt_cons]
    by_cases e : y = x
    · subst e
      rw [if_pos rfl]
      refine lex_of_code hl' h1.tail h2.tail ?_
      have k := TS.code_same (B := B) (d := y) hl'.symm
      refine Int.not_lt.mp fun z => ?_
      have := k.mpr z
      omega
    · rw [if_neg e]
      refine decide_eq_false fun z => ?_
      have := TS.code_lt hl'.symm h2.tail h1.tail z
      omega
  | [], _ :: _, hl, _, _, _ => by simp at hl
  | _ :: _, [], hl, _, _, _ => by simp at hl
/-- a bound of all numbers -/
def bigger : List Int → Int
  | [] => 1
  | x :: l => if bigger l ≤ x then x + 1 else bigger l
theorem bigger_lt : ∀ {l : List Int} {x : Int}, x ∈ l → x < bigger l
  | y :: l, x, h => by
    unfold bigger
    rcases List.mem_cons.mp h with e | e
    · subst e; split <;> omega
    · have := bigger_lt e
      split <;> omega
theorem drs_perm {K : PySem.W.Frag} {W : Wd} {ys vs : List V} (h : ys.Perm vs) : ∀ {L : List (List Int)}, DRs K W vs (L.map tupI) → ∃ L' : List (List Int), L'.Perm L ∧ DRs K W ys (L'.map tupI) := by
  induction h with
  | nil => intro L r; cases L with
    | nil => exact ⟨[], .nil, .nil⟩
    | cons a l => cases r
  | cons x _ ih =>
    intro L r
    cases L with
    | nil => cases r
    | cons a l =>
      cases r with
      | cons h1 h2 =>
        obtain ⟨L', p, q⟩ := ih h2
        exact ⟨a :: L', p.cons a, .cons h1 q⟩
  | swap x y l =>
    intro L r
    cases L with
    | nil => cases r
    | cons a L =>
      cases r with
      | cons h1 h2 =>
        cases L with
        | nil => cases h2
        | cons b L =>
          cases h2 with
          | cons h2 h3 => exact ⟨b :: a :: L, .swap a b L, .cons h2 (.cons h1 h3)⟩
  | trans _ _ ih1 ih2 =>
    intro L r
    obtain ⟨L1, p1, q1⟩ := ih2 r
    obtain ⟨L2, p2, q2⟩ := ih1 q1
    exact ⟨L2, p2.trans p1, q2⟩
theorem dr_tupI {K : PySem.W.Frag} {W : Wd} {H : Hp} {n : Nat} {v : V} {l : List Int} (ok : WOk W H n) (h : DR K W v (tupI l)) : TupI K H v l := by
  unfold tupI at h
  cases h with
  | tup h r => rw [DRs.of_ints r] at h; exact ⟨_, rfl, sqt_H ok h⟩
def gSortT : GA := fun ds R => match ds with
  | [.lst xs] => ∃ (L : List (List Int)) (w : Nat), xs = L.map tupI ∧ L.length < 64 ∧ 1 ≤ w ∧ (∀ l ∈ L, l.length = w ∧ ∀ x ∈ l, 0 ≤ x) ∧ ∀ L' : List (List Int), L'.Perm L → L'.Pairwise lexLe → R (.own (L'.map tupI))
  | _ => False
theorem d_sortT (c : Ctx X G) : CallD X G (.builtin "sorted") gSortT := by
  intro pins s σ H xs us Q I r ⟨ds, W, n, R, ok, hd, hg, hp⟩
  unfold gSortT at hg
  split at hg
  · rename_i xs'
    obtain ⟨L, w, rfl, h64, hw, hL, hR⟩ := hg
    obtain ⟨v, rfl, h⟩ := drs1 hd
    cases h with
    | lst h rr =>
      rename_i a vs
      have q := sql_H ok h
      rw [← c.K] at q
      have bd : ∀ l ∈ L, TS.Bd (bigger L.flatten) l := fun l hl m hm => ⟨(hL l hl).2 m hm, bigger_lt (List.mem_flatten.mpr ⟨l, hl, hm⟩)⟩
      have hlen : vs.length = L.length := by rw [rr.length, List.length_map]
      refine cr_sortT (d := w) (B := bigger L.flatten) hw pins s σ H _ us Q I r ⟨_, vs, rfl, q, by omega, fun y hy => ?_, fun ys t hperm hpw ht => ?_⟩
      · obtain ⟨i, hi⟩ := List.mem_iff_getElem?.mp hy
        obtain ⟨d, e, dd⟩ := rr.getv i hi
        rw [List.getElem?_map] at e
        cases el : L[i]? with
        | none => rw [el] at e; cases e
        | some l =>
          rw [el] at e
          have e' : tupI l = d := Option.some.inj e
          subst e'
          have hm := List.mem_of_getElem? el
          exact ⟨l, by rw [c.K]; exact dr_tupI ok dd, (hL l hm).1, bd l hm⟩
      · obtain ⟨L', p1, q1⟩ := drs_perm hperm rr
        refine hp.lst ok (hR L' p1 ?_) q1 ht
        -- the order
        have key : ∀ {ys : List V} {L' : List (List Int)}, DRs G.K W ys (L'.map tupI) → (∀ l ∈ L', l ∈ L) → ys.Pairwise (fun x y => ∀ n m, TupI X.K H x n → TupI X.K H y m → TS.code (bigger L.flatten) n ≤ TS.code (bigger L.flatten) m) → L'.Pairwise lexLe := by
          intro ys L'
          induction L' generalizing ys with
          | nil => intro _ _ _; exact .nil
          | cons l L' ih =>
            intro r hm hp
            cases r with
            | cons h1 h2 =>
              cases hp with
              | cons p1 p2 =>
                refine .cons (fun l2 hl2 => ?_) (ih h2 (fun l hl => hm l (List.mem_cons_of_mem _ hl)) p2)
                obtain ⟨i, hi⟩ := List.mem_iff_getElem?.mp hl2
                obtain ⟨y, ey, dy⟩ := h2.get i (d := tupI l2) (by rw [List.getElem?_map, hi]; rfl)
                have m1 := hm l List.mem_cons_self
                have m2 := hm l2 (List.mem_cons_of_mem _ hl2)
                refine lex_of_code ((hL l m1).1.trans (hL l2 m2).1.symm) (bd l m1) (bd l2 m2) (p1 y (List.mem_of_getElem? ey) l l2 ?_ ?_)
                · rw [c.K]; exact dr_tupI ok h1
                · rw [c.K]; exact dr_tupI ok dy
        exact key q1 (fun l hl => p1.mem_iff.mp hl) hpw
  · exact hg.elim
/-! ### the module's constants -/
def GC (K : PySem.W.Frag) (mg : Str → Option Value) (x : Str) (d : D) : Prop := ∃ (v : V) (u : Value), mg x = some u ∧ RelV v u ∧ ∀ W, DR K W v d
theorem o_glob {K : PySem.W.Frag} {mg : Str → Option Value} {x : Str} {d : D} (c : Ctx X (G0 K mg)) (hg : Gl X x) (h : GC K mg x d) (hd : (x == ("__debug__" : Str)) = false := by decide) : PE X (.Name x pos) (tOf (G0 K mg) (mC d)) := by
  obtain ⟨v, u, h1, h2, h3⟩ := h
  have e : X.mg x = some u := by rw [c.mg]; exact h1
  exact o_c (pe_glob hg e h2 hd) h3
end
/-! ### pots -/
section
variable {P : Program} {w : World} {K : PySem.W.Frag} {mg : Str → Option Value} {base : Heap} {k : Nat} {fa : Addr} {fd : FuncData} {ps N : List Str} {x qual : Str} {st : Stmt}
/-- three good numbers -/
def Good (a b c : Int) (n : Nat) : Prop := 0 ≤ a ∧ a < 2 ^ 1100 ∧ 0 ≤ b ∧ b < 2 ^ 62 ∧ 0 ≤ c ∧ c ≤ n
/-- a new list of three good numbers becomes a pot -/
theorem cal_pot {f g : SpD} (h : Cal P w K mg base x k ps f) (i : ∀ ds n R RX, g ds n R RX → f ds n (fun s n' => ∃ a b c, s = .own [.int a, .int b, .int c] ∧ Good a b c n' ∧ R (.dat .pot) n') RX) : Cal P w K mg base x k ps g := by
  obtain ⟨fa, fd, h1, h2, h3, h4⟩ := h
  have up : ∀ vs H Q E, toSp K mg g vs H Q E → toSp K mg f vs H Q E := fun vs H Q E ⟨ds, n, W, R, RX, ok, hd, hg, hQ, hX⟩ => ⟨ds, n, W, _, RX, ok, hd, i _ _ _ _ hg, fun s n' v H' W' hs ok' go rs => by
    obtain ⟨a, b, c, rfl, gd, hR⟩ := hs
    obtain ⟨p, rfl, ⟨vs', hp, hv⟩, ho, hn⟩ := rs
    have e : vs' = [.int a, .int b, .int c] := by
      cases hv with
      | cons a1 hv => cases hv with
        | cons a2 hv => cases hv with
          | cons a3 hv => cases hv; cases a1; cases a2; cases a3; rfl
    subst e
    refine hQ (.dat .pot) n' (.ref p) H' ⟨W'.F, fun q => W'.P q ∨ q = p⟩ hR ⟨ok'.frz, fun q hq => ?_⟩ ⟨⟨go.le.1, fun q hq => .inl (go.le.2 q hq)⟩, fun q o hq hoq hnq => ?_, go.tr, go.ow⟩ (DR.pot p (.inr rfl))
    · rcases hq with hq | rfl
      · exact ok'.pot q hq
      · exact ⟨ho.1, a, b, c, hp, gd⟩
    · obtain ⟨e1, e2⟩ := go.fr q o hq hoq hnq
      exact ⟨e1, e2.1, fun z => z.elim e2.2 fun z => by rw [z, hn] at hq; cases hq⟩, hX⟩
  exact ⟨fa, fd, h1, h2, h3, ⟨fun vs H Q E q => h4.len vs H Q E (up _ _ _ _ q), fun A outer s H args us vs Q E hg hr e0 hb rv q => h4.run A outer s H args us vs Q E hg hr e0 hb rv (up _ _ _ _ q)⟩⟩
end
section
variable {X : Cx} {G : Gx} {a b : Expr} {st : Stmt} {mb mv mk : M} {pos : Pos}
/-- pot[k]: which number stands there is not known -/
def mPotIdx (i : Nat) (mb : M) : M := fun ρ n R RX => ρ[i]? = some (.dat .pot) ∧ mb ρ n (fun s ρ1 n1 => ∃ k : Int, s = .dat (.int k) ∧
  ((k = 0 ∧ ∀ x : Int, 0 ≤ x → x < 2 ^ 1100 → R (.dat (.int x)) ρ1 n1) ∨ (k = 1 ∧ ∀ x : Int, 0 ≤ x → x < 2 ^ 62 → R (.dat (.int x)) ρ1 n1) ∨ (k = 2 ∧ ∀ x : Int, 0 ≤ x → x ≤ n1 → R (.dat (.int x)) ρ1 n1))) RX
theorem o_potIdx (c : Ctx X G) {i : Nat} (ha : PE X a (tVar i)) (hb : PE X b (tOf G mb)) (hs : PlainIx b) : PE X (.Subscript a b pos) (tOf G (mPotIdx i mb)) := pe_imp (pe_ix ix_seq ha hb hs) fun σ H Q h => by
  obtain ⟨ρ, n, W, R, RX, r, ⟨e0, h⟩, l, x⟩ := h
  obtain ⟨v0, ep, dp⟩ := r.sl i _ e0
  cases dp with
  | pot p hp =>
    refine ⟨.ref p, ep, of_bind r x h fun s ρ1 n1 v H1 W1 h1 r1 g1 s1 x1 => ?_⟩
    obtain ⟨k, rfl, h1⟩ := h1
    cases s1
    obtain ⟨_, xa, xb, xc, hpot, b1, b2, b3, b4, b5, b6⟩ := r1.ok.pot p (g1.go.le.2 p hp)
    rcases h1 with ⟨rfl, hR⟩ | ⟨rfl, hR⟩ | ⟨rfl, hR⟩
    · exact .inl ⟨p, [.int xa, .int xb, .int xc], 0, .int xa, rfl, rfl, .inl (.inl hpot), rfl, rl_same r1 (l.go g1) (hR xa b1 b2) (.int _)⟩
    · exact .inl ⟨p, [.int xa, .int xb, .int xc], 1, .int xb, rfl, rfl, .inl (.inl hpot), rfl, rl_same r1 (l.go g1) (hR xb b3 b4) (.int _)⟩
    · exact .inl ⟨p, [.int xa, .int xb, .int xc], 2, .int xc, rfl, rfl, .inl (.inl hpot), rfl, rl_same r1 (l.go g1) (hR xc b5 b6) (.int _)⟩
theorem rel_pot {K : PySem.W.Frag} {σ : L2.St} {ρ : List S} {n m : Nat} {W : Wd} {H : Hp} {q : Addr} {o : HO} (r : Rel K σ ρ n W H) (hq : W.P q) (le : n ≤ m) (hp : PotAt (upd H q o) q m) : Rel K σ ρ m W (upd H q o) ∧ Go σ ρ W H σ ρ W (upd H q o) := by
  have hne : ∀ x, Out W x → x ≠ q := fun x hx z => hx.2 (z ▸ hq)
  refine ⟨⟨⟨fun x o' hx => ?_, fun x hx => ⟨(r.ok.pot x hx).1, ?_⟩⟩, fun k t h => ?_, r.inj, r.len⟩, Wle.refl W, fun x o' hx hox hn => ⟨by rw [upd_ne (hne x hox)]; exact hx, hox⟩, fun x o' hx => ?_, fun x hx => .inl hx⟩
  · have n : x ≠ q := fun z => by rw [z, (r.ok.pot q hq).1] at hx; cases hx
    rw [upd_ne n]; exact r.ok.frz x o' hx
  · by_cases z : x = q
    · subst z; exact hp
    · obtain ⟨a, b, c, h, t⟩ := (r.ok.pot x hx).2.le le
      exact ⟨a, b, c, by rw [upd_ne z]; exact h, t⟩
  · have x := r.sl k t h
    cases t with
    | un => trivial
    | dat d => exact x
    | own ds =>
      obtain ⟨y, h1, h2, h3⟩ := x
      exact ⟨y, h1, h2.mono (Wle.refl W) (upd_ne (hne y h3)), h3⟩
    | ownd ds =>
      obtain ⟨y, h1, h2, h3⟩ := x
      exact ⟨y, h1, h2.mono (Wle.refl W) (upd_ne (hne y h3)), h3⟩
  · by_cases z : x = q
    · subst z; exact ⟨o, upd_same⟩
    · exact ⟨o', by rw [upd_ne z]; exact hx⟩
/-- pot[k] = v -/
def sPotSet (i : Nat) (mv mk : M) : MS := fun DD ρ n => mv ρ n (fun s ρ1 n1 => toD s fun d => ρ1[i]? = some (.dat .pot) ∧ mk ρ1 n1 (fun t ρ2 n2 => ∃ v k : Int, d = .int v ∧ t = .dat (.int k) ∧
  ((k = 0 ∧ 0 ≤ v ∧ v < 2 ^ 1100 ∧ DD.nx ρ2 n2) ∨ (k = 2 ∧ 0 ≤ v ∧ v ≤ n2 + 1 ∧ DD.nx ρ2 (n2 + 1)))) DD.ex) DD.ex
theorem s_potSet {i : Nat} (hps : PS X st (tAsg (tOf G mv) (L2.gSub (tVar i) (tOf G mk) rSetL))) : PS X st (tsOf G (sPotSet i mv mk)) := ps_imp hps fun D σ H ⟨ρ, n, W, DD, r, h, l⟩ => by
  refine of_bindD r l.ex h fun d ρ1 n1 v H1 W1 h1 r1 g1 d1 x1 => ?_
  obtain ⟨e0, h1⟩ := h1
  obtain ⟨v0, ep, dp⟩ := r1.sl i _ e0
  cases dp with
  | pot p hp =>
    refine ⟨.ref p, ep, of_bind r1 x1 h1 fun t ρ2 n2 y H2 W2 h2 r2 g2 d2 x2 => ?_⟩
    obtain ⟨z, k, rfl, rfl, h2⟩ := h2
    cases d1; cases d2
    obtain ⟨_, xa, xb, xc, hpot, b1, b2, b3, b4, b5, b6⟩ := r2.ok.pot p (g2.go.le.2 p hp)
    rcases h2 with ⟨rfl, c1, c2, hR⟩ | ⟨rfl, c1, c2, hR⟩
    · obtain ⟨r3, g3⟩ := rel_pot (o := .lst [.int z, .int xb, .int xc]) r2 (g2.go.le.2 p hp) (Nat.le_refl n2) ⟨z, xb, xc, upd_same, c1, c2, b3, b4, b5, b6⟩
      exact ⟨p, _, 0, 0, rfl, rfl, hpot, rfl, l.nx _ n2 σ _ W2 hR r3 ((g1.trans g2).go.trans g3)⟩
    · obtain ⟨r3, g3⟩ := rel_pot (o := .lst [.int xa, .int xb, .int z]) r2 (g2.go.le.2 p hp) (Nat.le_succ n2) ⟨xa, xb, z, upd_same, b1, b2, b3, b4, c1, c2⟩
      exact ⟨p, _, 2, 2, rfl, rfl, hpot, rfl, l.nx _ _ σ _ W2 hR r3 ((g1.trans g2).go.trans g3)⟩
end
end PL

set_option Elab.async false
set_option linter.all false
set_option maxRecDepth 100000
set_option maxHeartbeats 4000000
namespace PL
open PySem L2
/-! ### laws of loops and comprehensions over data -/
section
variable {gt gt1 : D → List S → (List S → Prop) → Prop} {u : MS} {DD : ED} {mt mt1 me : M} {mi1 : MI} {ρ : List S} {Kx : List D → Nat → Prop} {vs1 : List Nat}
theorem forL_ind (Iv : List D → List S → Nat → Prop) (h0 : ∀ ρ n, Iv [] ρ n → DD.nx ρ n) (h1 : ∀ d ds ρ n (K : List S → Nat → Prop), (∀ ρ' n', Iv ds ρ' n' → K ρ' n') → Iv (d :: ds) ρ n → gt d ρ fun ρ1 => u { DD with nx := K, ct := K, bk := DD.nx } ρ1 n) :
    ∀ ds ρ n, Iv ds ρ n → forL gt u DD ds ρ n
  | [], ρ, n, h => h0 ρ n h
  | d :: ds, ρ, n, h => h1 d ds ρ n _ (fun ρ' n' h => forL_ind Iv h0 h1 ds ρ' n' h) h
theorem lcL_ind (Iv : List D → List D → Nat → Prop) (h0 : ∀ acc n, Iv [] acc n → Kx acc n) (h1 : ∀ d ds acc n (K : List D → Nat → Prop), (∀ acc' n', Iv ds acc' n' → K acc' n') → Iv (d :: ds) acc n → lcTurn gt mt me ρ d acc n K) :
    ∀ ds acc n, Iv ds acc n → lcL gt mt me ρ Kx ds acc n
  | [], acc, n, h => h0 acc n h
  | d :: ds, acc, n, h => h1 d ds acc n _ (fun acc' n' h => lcL_ind Iv h0 h1 ds acc' n' h) h
theorem lcL_map (f : D → List D) : ∀ {ds : List D}, (∀ d ∈ ds, (f d).length ≤ 1) → (∀ d ∈ ds, ∀ acc n (K : List D → Nat → Prop), acc.length < 1000000 → K (acc ++ f d) n → lcTurn gt mt me ρ d acc n K) →
    ∀ acc n, acc.length + ds.length ≤ 1000000 → Kx (acc ++ ds.flatMap f) n → lcL gt mt me ρ Kx ds acc n
  | [], _, _, acc, n, _, h => by simpa [lcL] using h
  | d :: ds, hf, h1, acc, n, hl, h => by
    have hd := hf d List.mem_cons_self
    simp only [List.length_cons] at hl
    refine h1 d List.mem_cons_self acc n _ (by omega) (lcL_map f (fun d hd => hf d (List.mem_cons_of_mem _ hd)) (fun d hd => h1 d (List.mem_cons_of_mem _ hd)) _ n ?_ ?_)
    · rw [List.length_append]; omega
    · rw [List.append_assoc]; simpa using h
/-- every element kept -/
theorem lcL_all (f : D → D) {ds : List D} (h1 : ∀ d ∈ ds, ∀ acc n (K : List D → Nat → Prop), acc.length < 1000000 → K (acc ++ [f d]) n → lcTurn gt mt me ρ d acc n K) (n : Nat) (hl : ds.length ≤ 1000000) (h : Kx (ds.map f) n) : lcL gt mt me ρ Kx ds [] n :=
  lcL_map (fun d => [f d]) (fun _ _ => Nat.le_refl 1) h1 [] n (by simpa using hl) (by rw [List.nil_append, show ds.flatMap (fun d => [f d]) = ds.map f from by clear hl h h1; induction ds with | nil => rfl | cons d ds ih => rw [List.flatMap_cons, ih]; rfl]; exact h)
def lc2Turn (gt : D → List S → (List S → Prop) → Prop) (mt : M) (mi1 : MI) (gt1 : D → List S → (List S → Prop) → Prop) (mt1 me : M) (ρ : List S) (vs1 : List Nat) (d : D) (acc : List D) (n : Nat) (Kx : List D → Nat → Prop) : Prop :=
  gt d ρ fun ρ2 => mt ρ2 n (fun s ρ3 n3 => ρ3 = ρ2 ∧ toB s fun c => wIf c (mi1 ρ2 n3 (fun es ρ4 n4 => ρ4 = ρ2 ∧ lcL gt1 mt1 me (wipeD ρ2 vs1) Kx es acc n4) RX0) (Kx acc n3)) RX0
theorem lc2L_ind (Iv : List D → List D → Nat → Prop) (h0 : ∀ acc n, Iv [] acc n → Kx acc n) (h1 : ∀ d ds acc n (K : List D → Nat → Prop), (∀ acc' n', Iv ds acc' n' → K acc' n') → Iv (d :: ds) acc n → lc2Turn gt mt mi1 gt1 mt1 me ρ vs1 d acc n K) :
    ∀ ds acc n, Iv ds acc n → lc2L gt mt mi1 gt1 mt1 me ρ vs1 Kx ds acc n
  | [], acc, n, h => h0 acc n h
  | d :: ds, acc, n, h => h1 d ds acc n _ (fun acc' n' h => lc2L_ind Iv h0 h1 ds acc' n' h) h
theorem lc2L_map (f : D → List D) {ds : List D} (m : Nat) (hf : ∀ d ∈ ds, (f d).length ≤ m) (h1 : ∀ d ∈ ds, ∀ acc n (K : List D → Nat → Prop), acc.length + m ≤ 1000000 → K (acc ++ f d) n → lc2Turn gt mt mi1 gt1 mt1 me ρ vs1 d acc n K)
    (acc : List D) (n : Nat) (hl : acc.length + ds.length * m ≤ 1000000) (h : Kx (acc ++ ds.flatMap f) n) : lc2L gt mt mi1 gt1 mt1 me ρ vs1 Kx ds acc n := by
  refine lc2L_ind (fun es acc' n' => n' = n ∧ (∀ d ∈ es, d ∈ ds) ∧ acc'.length + es.length * m ≤ 1000000 ∧ Kx (acc' ++ es.flatMap f) n) ?_ ?_ ds acc n ⟨rfl, fun _ h => h, hl, h⟩
  · rintro acc n' ⟨rfl, _, _, h⟩; simpa using h
  · rintro d es acc n' K hK ⟨rfl, hm, hl, h⟩
    have hd := hm d List.mem_cons_self
    have hfd := hf d hd
    rw [List.length_cons, Nat.succ_mul] at hl
    refine h1 d hd acc n' K (by omega) (hK _ _ ⟨rfl, fun d hd => hm d (List.mem_cons_of_mem _ hd), ?_, ?_⟩)
    · rw [List.length_append]; omega
    · rw [List.append_assoc]; simpa using h
end
/-! ### the order of lists of ints -/
theorem lexLt_irr : ∀ a : List Int, HT.lexLt a a = false
  | [] => rfl
  | x :: a => by rw [HT.lexLt_cons, if_pos rfl]; exact lexLt_irr a
theorem lex_antisymm : ∀ {a b : List Int}, a.length = b.length → lexLe a b → lexLe b a → a = b
  | [], [], _, _, _ => rfl
  | x :: a, y :: b, hl, h1, h2 => by
    unfold lexLe at h1 h2
    rw [HT.lexLt_cons] at h1 h2
    by_cases e : x = y
    · subst e
      rw [if_pos rfl] at h1 h2
      rw [lex_antisymm (by simpa using hl) h1 h2]
    · rw [if_neg (fun z => e z.symm)] at h1
      rw [if_neg e] at h2
      have a1 := of_decide_eq_false h1
      have a2 := of_decide_eq_false h2
      omega
  | [], _ :: _, hl, _, _ => by simp at hl
  | _ :: _, [], hl, _, _ => by simp at hl
theorem sort_unique {w : Nat} : ∀ {A B : List (List Int)}, A.Perm B → (∀ l ∈ A, l.length = w) → A.Pairwise lexLe → B.Pairwise lexLe → A = B
  | [], B, p, _, _, _ => (List.nil_perm.mp p).symm ▸ rfl
  | a :: A, [], p, _, _, _ => by simpa using p.length_eq
  | a :: A, b :: B, p, hw, h1, h2 => by
    have ha : a ∈ b :: B := p.mem_iff.mp List.mem_cons_self
    have hb : b ∈ a :: A := p.mem_iff.mpr List.mem_cons_self
    have le1 : lexLe a b := by
      rcases List.mem_cons.mp hb with e | e
      · subst e; exact lexLt_irr _
      · exact (List.pairwise_cons.mp h1).1 b e
    have le2 : lexLe b a := by
      rcases List.mem_cons.mp ha with e | e
      · subst e; exact lexLt_irr _
      · exact (List.pairwise_cons.mp h2).1 a e
    have e : a = b := lex_antisymm ((hw a List.mem_cons_self).trans (hw b hb).symm) le1 le2
    subst e
    rw [sort_unique (List.perm_cons a |>.mp p) (fun l hl => hw l (List.mem_cons_of_mem _ hl)) (List.pairwise_cons.mp h1).2 (List.pairwise_cons.mp h2).2]
end PL

set_option Elab.async false
set_option linter.all false
set_option maxRecDepth 100000
set_option maxHeartbeats 4000000
namespace PL
open PySem L2
/-! ### what can be shown -/
structure Rp (k m : Nat) (d : D) : Prop where
  pl : d.plain = true
  sh : d.py.showable = true
  nd : d.py.hasDict = false
  dp : d.py.depth ≤ k
  ln : d.py.shown.length ≤ m
theorem Rp.le {k m k' m' : Nat} {d : D} (h : Rp k m d) (a : k ≤ k') (b : m ≤ m') : Rp k' m' d := ⟨h.pl, h.sh, h.nd, Nat.le_trans h.dp a, Nat.le_trans h.ln b⟩
theorem gRepr_of {k m : Nat} {d : D} {R : S → Prop} (h : Rp k m d) (a : k ≤ 60) (b : m ≤ 1000000) (q : R (.dat (.str d.py.shown))) : gRepr [d] R := ⟨h.pl, h.sh, h.nd, Nat.le_trans h.dp a, Nat.le_trans h.ln b, q⟩
theorem Rp.int {i : Int} {k j : Nat} (hj : 0 < j) (h : i.natAbs < 10 ^ j) (hb : i.natAbs.log2 < 1920 := by omega) : Rp k (j + 1) (.int i) := ⟨rfl, decide_eq_true hb, rfl, Nat.zero_le _, by
  show (Str.ofString (toString i)).length ≤ j + 1
  rw [ofString_length]; exact int_text_length_le10 hj h⟩
theorem Rp.bl {k : Nat} (b : Bool) : Rp k 5 (.bl b) := ⟨rfl, rfl, rfl, Nat.zero_le _, by cases b <;> decide⟩
theorem Rp.non {k : Nat} : Rp k 5 .non := ⟨rfl, rfl, rfl, Nat.zero_le _, by decide⟩
theorem Rp.str {k : Nat} {x : Str} (hx : ∀ c ∈ x.cps.toList, c < 16 ^ 8) : Rp k (10 * x.length + 2) (.str x) := ⟨rfl, rfl, rfl, Nat.zero_le _, StrLaws.reprText_len x hx⟩
theorem rp_all {k m : Nat} : ∀ {ds : List D}, (∀ d ∈ ds, Rp k m d) → D.plainAll ds = true ∧ PyData.showableAll (D.pyAll ds) = true ∧ PyData.hasDictAll (D.pyAll ds) = false ∧ PyData.depthAll (D.pyAll ds) ≤ k ∧ ((PyData.shownAll (D.pyAll ds)).map (·.length)).sum ≤ ds.length * m ∧ (PyData.shownAll (D.pyAll ds)).length = ds.length
  | [], _ => ⟨rfl, rfl, rfl, Nat.zero_le _, Nat.zero_le _, rfl⟩
  | d :: ds, h => by
    obtain ⟨h1, h2, h3, h4, h5, h6⟩ := rp_all (ds := ds) fun d hd => h d (List.mem_cons_of_mem _ hd)
    have hd := h d List.mem_cons_self
    refine ⟨?_, ?_, ?_, ?_, ?_, ?_⟩
    · show (d.plain && D.plainAll ds) = true; rw [hd.pl, h1]; rfl
    · show (d.py.showable && PyData.showableAll (D.pyAll ds)) = true; rw [hd.sh, h2]; rfl
    · show (d.py.hasDict || PyData.hasDictAll (D.pyAll ds)) = false; rw [hd.nd, h3]; rfl
    · show max d.py.depth (PyData.depthAll (D.pyAll ds)) ≤ k; have := hd.dp; omega
    · show (d.py.shown.length :: (PyData.shownAll (D.pyAll ds)).map (·.length)).sum ≤ (ds.length + 1) * m
      rw [List.sum_cons, Nat.succ_mul]; have := hd.ln; omega
    · show (PyData.shownAll (D.pyAll ds)).length + 1 = ds.length + 1; rw [h6]
theorem Rp.tup {k m : Nat} {ds : List D} (h : ∀ d ∈ ds, Rp k m d) : Rp (k + 1) (ds.length * (m + 2) + 3) (.tup ds) := by
  obtain ⟨h1, h2, h3, h4, h5, h6⟩ := rp_all h
  refine ⟨h1, h2, h3, Nat.succ_le_succ h4, ?_⟩
  have h7 := tupleText_len_le (PyData.shownAll (D.pyAll ds))
  show (tupleText (PyData.shownAll (D.pyAll ds))).length ≤ _
  rw [h6] at h7
  rw [Nat.mul_add]; omega
theorem Rp.lst {k m : Nat} {ds : List D} (h : ∀ d ∈ ds, Rp k m d) : Rp (k + 1) (ds.length * (m + 2) + 3) (.lst ds) := by
  obtain ⟨h1, h2, h3, h4, h5, h6⟩ := rp_all h
  refine ⟨h1, h2, h3, Nat.succ_le_succ h4, ?_⟩
  have h7 := listText_len_le (PyData.shownAll (D.pyAll ds))
  show (listText (PyData.shownAll (D.pyAll ds))).length ≤ _
  rw [h6] at h7
  rw [Nat.mul_add]; omega
theorem Rp.ints {k j : Nat} {l : List Int} (hj : 0 < j) (h : ∀ x ∈ l, x.natAbs < 10 ^ j ∧ x.natAbs.log2 < 1920) : Rp (k + 1) (l.length * (j + 3) + 3) (tupI l) := by
  have := Rp.tup (ds := l.map D.int) (k := k) (m := j + 1) (fun d hd => by
    obtain ⟨x, hx, rfl⟩ := List.mem_map.mp hd
    exact Rp.int hj (h x hx).1 (h x hx).2)
  rwa [List.length_map] at this
end PL

set_option Elab.async false
set_option linter.all false
set_option maxRecDepth 100000
set_option maxHeartbeats 4000000
namespace PL
open PySem L2
/-! ### evaluation: equations to be used from the outside in -/
def lkK (ρ : List S) (i : Nat) (k : S → Prop) : Prop := k (ρ[i]?.getD .un)
def stK (ρ : List S) (i : Nat) (t : S) (k : List S → Prop) : Prop := k (ρ.set i t)
theorem lkK_0 (s : S) (ρ : List S) (k : S → Prop) : lkK (s :: ρ) 0 k = k s := rfl
theorem lkK_s (s : S) (ρ : List S) (i : Nat) (k : S → Prop) : lkK (s :: ρ) (i + 1) k = lkK ρ i k := by unfold lkK; simp
theorem stK_0 (s : S) (ρ : List S) (t : S) (k : List S → Prop) : stK (s :: ρ) 0 t k = k (t :: ρ) := rfl
theorem stK_s (s : S) (ρ : List S) (i : Nat) (t : S) (k : List S → Prop) : stK (s :: ρ) (i + 1) t k = stK ρ i t fun ρ' => k (s :: ρ') := rfl
theorem x_var (i : Nat) (ρ : List S) (n : Nat) (R : RK) (RX : XR) : mVar i ρ n R RX = lkK ρ i fun s => match s with
  | .dat d => R (.dat d) ρ n
  | .own ds => stK ρ i (.dat (.lst ds)) fun ρ' => R (.dat (.lst ds)) ρ' n
  | _ => False := by
  unfold mVar lkK stK
  cases h : ρ[i]? with
  | none => rfl
  | some s => cases s <;> rfl
theorem x_asg (i : Nat) (m : M) (DD : ED) (ρ : List S) (n : Nat) : sAsg i m DD ρ n = m ρ n (fun s ρ1 n1 => stK ρ1 i s fun ρ' => DD.nx ρ' n1) DD.ex := rfl
theorem x_gtN (i : Nat) (d : D) (ρ : List S) (R : List S → Prop) : gtN i d ρ R = stK ρ i (.dat d) R := rfl
def stSK : List S → List Nat → List S → (List S → Prop) → Prop
  | ρ, i :: is, s :: ss, k => stK ρ i s fun ρ' => stSK ρ' is ss k
  | ρ, _, _, k => k ρ
theorem stSK_c (ρ : List S) (i : Nat) (is : List Nat) (s : S) (ss : List S) (k : List S → Prop) : stSK ρ (i :: is) (s :: ss) k = stK ρ i s fun ρ' => stSK ρ' is ss k := rfl
theorem stSK_n (ρ : List S) (k : List S → Prop) : stSK ρ [] [] k = k ρ := rfl
theorem stSK_eq : ∀ (is : List Nat) (ρ ss : List S) (k : List S → Prop), stSK ρ is ss k = k (setS ρ is ss)
  | [], ρ, ss, k => by cases ss <;> rfl
  | _ :: _, _, [], _ => rfl
  | i :: is, ρ, s :: ss, k => by rw [stSK_c]; exact stSK_eq is (ρ.set i s) ss k
theorem x_par (is : List Nat) (m : MO) (DD : ED) (ρ : List S) (n : Nat) : sParN is m DD ρ n = m ρ n (fun ss ρ1 n1 => ss.length = is.length ∧ stSK ρ1 is ss fun ρ' => DD.nx ρ' n1) DD.ex := by
  unfold sParN; simp only [stSK_eq]
def wpK : List S → List Nat → (List S → Prop) → Prop
  | ρ, [], k => k ρ
  | ρ, v :: vs, k => wpK ρ vs fun ρ' => stK ρ' v .un k
theorem wpK_n (ρ : List S) (k : List S → Prop) : wpK ρ [] k = k ρ := rfl
theorem wpK_c (ρ : List S) (v : Nat) (vs : List Nat) (k : List S → Prop) : wpK ρ (v :: vs) k = wpK ρ vs fun ρ' => stK ρ' v .un k := rfl
theorem wpK_eq (ρ : List S) : ∀ (vs : List Nat) (k : List S → Prop), wpK ρ vs k = k (wipeD ρ vs)
  | [], _ => rfl
  | v :: vs, k => by rw [wpK_c, wpK_eq ρ vs]; rfl
theorem x_lc (mi : MI) (gt : D → List S → (List S → Prop) → Prop) (mt me : M) (vs : List Nat) (ρ : List S) (n : Nat) (R : RK) (RX : XR) : mLc mi gt mt me vs ρ n R RX = mi ρ n (fun ds ρ1 n1 => wpK ρ1 vs fun ρ' => lcL gt mt me ρ' (fun acc n2 => R (.own acc) ρ1 n2) ds [] n1) RX := by
  unfold mLc; simp only [wpK_eq]
theorem x_lc2 (mi : MI) (gt : D → List S → (List S → Prop) → Prop) (mt : M) (mi1 : MI) (gt1 : D → List S → (List S → Prop) → Prop) (mt1 me : M) (vs vs1 : List Nat) (ρ : List S) (n : Nat) (R : RK) (RX : XR) :
    mLc2 mi gt mt mi1 gt1 mt1 me vs vs1 ρ n R RX = mi ρ n (fun ds ρ1 n1 => wpK ρ1 vs fun ρ' => lc2L gt mt mi1 gt1 mt1 me ρ' vs1 (fun acc n2 => R (.own acc) ρ1 n2) ds [] n1) RX := by
  unfold mLc2; simp only [wpK_eq]
theorem x_lc2T (gt : D → List S → (List S → Prop) → Prop) (mt : M) (mi1 : MI) (gt1 : D → List S → (List S → Prop) → Prop) (mt1 me : M) (ρ : List S) (vs1 : List Nat) (d : D) (acc : List D) (n : Nat) (Kx : List D → Nat → Prop) : lc2Turn gt mt mi1 gt1 mt1 me ρ vs1 d acc n Kx =
    gt d ρ fun ρ2 => mt ρ2 n (fun s ρ3 n3 => ρ3 = ρ2 ∧ toB s fun c => wIf c (mi1 ρ2 n3 (fun es ρ4 n4 => ρ4 = ρ2 ∧ wpK ρ2 vs1 fun ρ' => lcL gt1 mt1 me ρ' Kx es acc n4) RX0) (Kx acc n3)) RX0 := by
  unfold lc2Turn; simp only [wpK_eq]
theorem lk_own (ρ : List S) (i : Nat) : (∃ ds, ρ[i]? = some (.own ds)) = lkK ρ i fun s => match s with | .own _ => True | _ => False := by
  unfold lkK
  cases h : ρ[i]? with
  | none => simp
  | some s => cases s <;> simp
theorem lk_ownd (ρ : List S) (i : Nat) : (∃ ds, ρ[i]? = some (.ownd ds)) = lkK ρ i fun s => match s with | .ownd _ => True | _ => False := by
  unfold lkK
  cases h : ρ[i]? with
  | none => simp
  | some s => cases s <;> simp
theorem lk_anyown (ρ : List S) (i : Nat) : (∃ s, ρ[i]? = some s ∧ s.isOwn) = lkK ρ i fun s => match s with | .own _ => True | .ownd _ => True | _ => False := by
  unfold lkK
  cases h : ρ[i]? with
  | none => simp
  | some s => cases s <;> simp [S.isOwn]
theorem x_app (i : Nat) (m : M) (DD : ED) (ρ : List S) (n : Nat) : sApp i m DD ρ n = ((lkK ρ i fun s => match s with | .own _ => True | _ => False) ∧ m ρ n (fun s ρ1 n1 => toD s fun d => lkK ρ1 i fun t => match t with
  | .own ds => ds.length < 1000000 ∧ stK ρ1 i (.own (ds ++ [d])) fun ρ' => DD.nx ρ' n1
  | _ => False) DD.ex) := by
  unfold sApp
  rw [lk_own]
  congr 1
  refine congrFun (congrArg _ (funext fun s => funext fun ρ1 => funext fun n1 => congrArg _ (funext fun d => ?_))) _
  unfold lkK stK
  cases h : ρ1[i]? with
  | none => rfl
  | some s => cases s <;> rfl
theorem x_ext (i : Nat) (m : M) (DD : ED) (ρ : List S) (n : Nat) : sExt i m DD ρ n = ((lkK ρ i fun s => match s with | .own _ => True | _ => False) ∧ m ρ n (fun s ρ1 n1 => lkK ρ1 i fun t => match s, t with
  | .own fs, .own ds => ds.length + fs.length ≤ 1000000 ∧ stK ρ1 i (.own (ds ++ fs)) fun ρ' => DD.nx ρ' n1
  | _, _ => False) DD.ex) := by
  unfold sExt
  rw [lk_own]
  congr 1
  refine congrFun (congrArg _ (funext fun s => funext fun ρ1 => funext fun n1 => ?_)) _
  unfold lkK stK
  cases h : ρ1[i]? with
  | none => cases s <;> rfl
  | some t => cases s <;> cases t <;> rfl
theorem x_setI (i : Nat) (mv mk : M) (DD : ED) (ρ : List S) (n : Nat) : sSetI i mv mk DD ρ n = mv ρ n (fun s ρ1 n1 => toD s fun d => (lkK ρ1 i fun s => match s with | .own _ => True | _ => False) ∧ mk ρ1 n1 (fun t ρ2 n2 => toD t fun k => lkK ρ2 i fun t => match t, k with
  | .own ds, .int k => ∃ j, ixN ds.length k = some j ∧ stK ρ2 i (.own (ds.set j d)) fun ρ' => DD.nx ρ' n2
  | _, _ => False) DD.ex) DD.ex := by
  unfold sSetI
  refine congrFun (congrArg _ (funext fun s => funext fun ρ1 => funext fun n1 => congrArg _ (funext fun d => ?_))) _
  rw [lk_own]
  congr 1
  refine congrFun (congrArg _ (funext fun t => funext fun ρ2 => funext fun n2 => congrArg _ (funext fun k => ?_))) _
  unfold lkK stK
  cases h : ρ2[i]? with
  | none => rfl
  | some t => cases t <;> cases k <;> rfl
theorem x_idxV (i : Nat) (mb : M) (ρ : List S) (n : Nat) (R : RK) (RX : XR) : mIdxV i mb ρ n R RX = ((lkK ρ i fun s => match s with | .own _ => True | .ownd _ => True | _ => False) ∧ mb ρ n (fun s ρ1 n1 => toD s fun b => lkK ρ1 i fun t => match t, b with
  | .own ds, .int k => ∃ d, atI ds k = some d ∧ R (.dat d) ρ1 n1
  | _, _ => False) RX) := by
  unfold mIdxV
  rw [lk_anyown]
  congr 1
  refine congrFun (congrArg _ (funext fun t => funext fun ρ2 => funext fun n2 => congrArg _ (funext fun k => ?_))) _
  unfold lkK
  cases h : ρ2[i]? with
  | none => rfl
  | some t => cases t <;> cases k <;> rfl
theorem x_lenV (i : Nat) (ρ : List S) (n : Nat) (R : RK) (RX : XR) : mLenV i ρ n R RX = lkK ρ i fun s => match s with
  | .own ds => R (.dat (.int (ds.length : Nat))) ρ n
  | _ => False := by
  unfold mLenV lkK
  cases h : ρ[i]? with
  | none => rfl
  | some t => cases t <;> rfl
theorem x_dget (i : Nat) (mk : M) (ρ : List S) (n : Nat) (R : RK) (RX : XR) : mDGet i mk ρ n R RX = ((lkK ρ i fun s => match s with | .ownd _ => True | _ => False) ∧ mk ρ n (fun s ρ1 n1 => toD s fun kd => lkK ρ1 i fun t => match t with
  | .ownd kvs => ∃ k d, keyD kd = some k ∧ lookD kvs k = some d ∧ R (.dat d) ρ1 n1
  | _ => False) RX) := by
  unfold mDGet
  rw [lk_ownd]
  congr 1
  refine congrFun (congrArg _ (funext fun s => funext fun ρ1 => funext fun n1 => congrArg _ (funext fun d => ?_))) _
  unfold lkK
  cases h : ρ1[i]? with
  | none => rfl
  | some t => cases t <;> rfl
theorem x_din (neg : Bool) (i : Nat) (mk : M) (ρ : List S) (n : Nat) (R : RK) (RX : XR) : mDIn neg i mk ρ n R RX = mk ρ n (fun s ρ1 n1 => toD s fun kd => lkK ρ1 i fun t => match t with
  | .ownd kvs => ∃ k, keyD kd = some k ∧ R (.dat (.bl (neg ^^ (lookD kvs k).isSome))) ρ1 n1
  | _ => False) RX := by
  unfold mDIn
  refine congrFun (congrArg _ (funext fun s => funext fun ρ1 => funext fun n1 => congrArg _ (funext fun d => ?_))) _
  unfold lkK
  cases h : ρ1[i]? with
  | none => rfl
  | some t => cases t <;> rfl
theorem x_dput (i : Nat) (mk mv : M) (DD : ED) (ρ : List S) (n : Nat) : PL.sDPut i mk mv DD ρ n = mv ρ n (fun s ρ1 n1 => toD s fun d => (lkK ρ1 i fun s => match s with | .ownd _ => True | _ => False) ∧ mk ρ1 n1 (fun t ρ2 n2 => toD t fun kd => lkK ρ2 i fun t => match t with
  | .ownd kvs => ∃ k, keyD kd = some k ∧ kvs.length < 1000000 ∧ stK ρ2 i (.ownd (putD kvs k d)) fun ρ' => DD.nx ρ' n2
  | _ => False) DD.ex) DD.ex := by
  unfold PL.sDPut
  refine congrFun (congrArg _ (funext fun s => funext fun ρ1 => funext fun n1 => congrArg _ (funext fun d => ?_))) _
  rw [lk_ownd]
  congr 1
  refine congrFun (congrArg _ (funext fun t => funext fun ρ2 => funext fun n2 => congrArg _ (funext fun k => ?_))) _
  unfold lkK stK
  cases h : ρ2[i]? with
  | none => rfl
  | some t => cases t <;> rfl
theorem lk_pot (ρ : List S) (i : Nat) : (ρ[i]? = some (.dat .pot)) = lkK ρ i fun s => match s with | .dat .pot => True | _ => False := by
  unfold lkK
  cases h : ρ[i]? with
  | none => simp
  | some s =>
    cases s <;> simp
    rename_i d; cases d <;> simp
theorem x_potIdx (i : Nat) (mb : M) (ρ : List S) (n : Nat) (R : RK) (RX : XR) : mPotIdx i mb ρ n R RX = ((lkK ρ i fun s => match s with | .dat .pot => True | _ => False) ∧ mb ρ n (fun s ρ1 n1 => ∃ k : Int, s = .dat (.int k) ∧
  ((k = 0 ∧ ∀ x : Int, 0 ≤ x → x < 2 ^ 1100 → R (.dat (.int x)) ρ1 n1) ∨ (k = 1 ∧ ∀ x : Int, 0 ≤ x → x < 2 ^ 62 → R (.dat (.int x)) ρ1 n1) ∨ (k = 2 ∧ ∀ x : Int, 0 ≤ x → x ≤ n1 → R (.dat (.int x)) ρ1 n1))) RX) := by
  unfold mPotIdx; rw [lk_pot]
theorem x_potSet (i : Nat) (mv mk : M) (DD : ED) (ρ : List S) (n : Nat) : sPotSet i mv mk DD ρ n = mv ρ n (fun s ρ1 n1 => toD s fun d => (lkK ρ1 i fun s => match s with | .dat .pot => True | _ => False) ∧ mk ρ1 n1 (fun t ρ2 n2 => ∃ v k : Int, d = .int v ∧ t = .dat (.int k) ∧
  ((k = 0 ∧ 0 ≤ v ∧ v < 2 ^ 1100 ∧ DD.nx ρ2 n2) ∨ (k = 2 ∧ 0 ≤ v ∧ v ≤ n2 + 1 ∧ DD.nx ρ2 (n2 + 1)))) DD.ex) DD.ex := by
  unfold sPotSet; simp only [lk_pot]
/-! indices -/
def atK (ds : List D) (i : Int) (k : D → Prop) : Prop := ∃ d, atI ds i = some d ∧ k d
theorem atK_of {ds : List D} {i : Int} {d : D} (h : atI ds i = some d) (k : D → Prop) : atK ds i k = k d := by
  unfold atK; rw [h]; simp
theorem atK_0 (a : D) (ds : List D) (k : D → Prop) : atK (a :: ds) 0 k = k a := atK_of (by unfold atI ixN; rw [if_pos (by omega), if_pos (by rw [List.length_cons]; omega)]; rfl) k
theorem atK_1 (a b : D) (ds : List D) (k : D → Prop) : atK (a :: b :: ds) 1 k = k b := atK_of (by unfold atI ixN; rw [if_pos (by omega), if_pos (by rw [List.length_cons, List.length_cons]; omega)]; rfl) k
theorem atK_2 (a b c : D) (ds : List D) (k : D → Prop) : atK (a :: b :: c :: ds) 2 k = k c := atK_of (by unfold atI ixN; rw [if_pos (by omega), if_pos (by rw [List.length_cons, List.length_cons, List.length_cons]; omega)]; rfl) k
theorem atK_3 (a b c d : D) (ds : List D) (k : D → Prop) : atK (a :: b :: c :: d :: ds) 3 k = k d := atK_of (by unfold atI ixN; rw [if_pos (by omega), if_pos (by rw [List.length_cons, List.length_cons, List.length_cons, List.length_cons]; omega)]; rfl) k
theorem atK_m1 (a : D) (k : D → Prop) : atK [a] (-1) k = k a := atK_of (by rfl) k
theorem atK_m2 (a b : D) (k : D → Prop) : atK [a, b] (-1) k = k b := atK_of (by rfl) k
theorem atK_m3 (a b c : D) (k : D → Prop) : atK [a, b, c] (-1) k = k c := atK_of (by rfl) k
theorem atK_m4 (a b c d : D) (k : D → Prop) : atK [a, b, c, d] (-1) k = k d := atK_of (by rfl) k
theorem x_idxl (ds : List D) (i : Int) (R : S → Prop) : gIdx (.lst ds) (.int i) R = atK ds i fun d => R (.dat d) := rfl
theorem x_idxt (ds : List D) (i : Int) (R : S → Prop) : gIdx (.tup ds) (.int i) R = atK ds i fun d => R (.dat d) := rfl
theorem x_idxs (x : Str) (i : Int) (R : S → Prop) : gIdx (.str x) (.int i) R = (x.length ≤ 1000000 ∧ ∃ c, atI x.cps.toList i = some c ∧ R (.dat (.str ⟨#[c]⟩))) := rfl
/-! the equations -/
def rgK (d : D) (k : Int → Prop) : Prop := ∃ j : Int, d = .int j ∧ k j
def rgK1 (ds : List D) (k : Int → Prop) : Prop := ∃ j : Int, ds = [.int j] ∧ k j
def rgK2 (ds : List D) (k : Int → Int → Prop) : Prop := ∃ i j : Int, ds = [.int i, .int j] ∧ k i j
theorem x_ret (m : M) (DD : ED) (ρ : List S) (n : Nat) : sRet m DD ρ n = (m ρ n (fun s ρ1 n1 => DD.rt s ρ1 n1) DD.ex) := rfl
theorem x_retN (DD : ED) (ρ : List S) (n : Nat) : sRetN DD ρ n = (DD.rt (.dat .non) ρ n) := rfl
theorem x_seq (u w : MS) (DD : ED) (ρ : List S) (n : Nat) : sSeq u w DD ρ n = (u { DD with nx := w DD } ρ n) := rfl
theorem x_sif (t : M) (u w : MS) (DD : ED) (ρ : List S) (n : Nat) : sIf t u w DD ρ n = (t ρ n (fun s ρ1 n1 => toB s fun c => wIf c (u DD ρ1 n1) (w DD ρ1 n1)) DD.ex) := rfl
theorem x_snil (DD : ED) (ρ : List S) (n : Nat) : sNil DD ρ n = (DD.nx ρ n) := rfl
theorem x_exp (m : M) (DD : ED) (ρ : List S) (n : Nat) : sExp m DD ρ n = (m ρ n (fun _ ρ1 n1 => DD.nx ρ1 n1) DD.ex) := rfl
theorem x_nev (DD : ED) (ρ : List S) (n : Nat) : sNev DD ρ n = (False) := rfl
theorem x_brk (DD : ED) (ρ : List S) (n : Nat) : sBrk DD ρ n = (DD.bk ρ n) := rfl
theorem x_cnt (DD : ED) (ρ : List S) (n : Nat) : sCnt DD ρ n = (DD.ct ρ n) := rfl
theorem x_sfor (mi : MI) (gt : D → List S → (List S → Prop) → Prop) (u : MS) (DD : ED) (ρ : List S) (n : Nat) : sFor mi gt u DD ρ n = (mi ρ n (fun ds ρ1 n1 => forL gt u DD ds ρ1 n1) DD.ex) := rfl
theorem x_moNil (ρ : List S) (n : Nat) (R : List S → List S → Nat → Prop) (RX : XR) : moNil ρ n R RX = (R [] ρ n) := rfl
theorem x_moCons (ma : M) (m : MO) (ρ : List S) (n : Nat) (R : List S → List S → Nat → Prop) (RX : XR) : moCons ma m ρ n R RX = (ma ρ n (fun s ρ1 n1 => m ρ1 n1 (fun ss ρ2 n2 => R (s :: ss) ρ2 n2) RX) RX) := rfl
theorem x_asgT (gt : D → List S → (List S → Prop) → Prop) (m : M) (DD : ED) (ρ : List S) (n : Nat) : sAsgT gt m DD ρ n = (m ρ n (fun s ρ1 n1 => toD s fun d => gt d ρ1 fun ρ2 => DD.nx ρ2 n1) DD.ex) := rfl
theorem x_gtT (k : Nat) (u : List D → List S → (List S → Prop) → Prop) (ds : List D) (ρ : List S) (R : List S → Prop) : gtT k u (.tup ds) ρ R = (ds.length = k ∧ u ds ρ R) := rfl
theorem x_gtCons (t : D → List S → (List S → Prop) → Prop) (u : List D → List S → (List S → Prop) → Prop) (d : D) (ds : List D) (ρ : List S) (R : List S → Prop) : gtCons t u (d :: ds) ρ R = (t d ρ fun ρ1 => u ds ρ1 R) := rfl
theorem x_gtNil (ρ : List S) (R : List S → Prop) : gtNil [] ρ R = (R ρ) := by simp [gtNil]
theorem x_retV (j : Nat) (DD : ED) (ρ : List S) (n : Nat) : sRetV j DD ρ n = (lkK ρ j fun s => match s with | .own ds => DD.rt (.own ds) ρ n | .ownd ds => DD.rt (.ownd ds) ρ n | _ => False) := by
  unfold sRetV lkK
  cases h : ρ[j]? with
  | none => simp
  | some s => cases s <;> simp [S.isOwn]
theorem x_mov (i j : Nat) (DD : ED) (ρ : List S) (n : Nat) : sMov i j DD ρ n = (i ≠ j ∧ lkK ρ j fun s => match s with | .own ds => stK ρ j .un fun ρ1 => stK ρ1 i (.own ds) fun ρ2 => DD.nx ρ2 n | .ownd ds => stK ρ j .un fun ρ1 => stK ρ1 i (.ownd ds) fun ρ2 => DD.nx ρ2 n | _ => False) := by
  unfold sMov lkK stK
  cases h : ρ[j]? with
  | none => simp
  | some s => cases s <;> simp [S.isOwn]
theorem x_c (d : D) (ρ : List S) (n : Nat) (R : RK) (RX : XR) : mC d ρ n R RX = (R (.dat d) ρ n) := rfl
theorem x_bin (g : G2) (ma mb : M) (ρ : List S) (n : Nat) (R : RK) (RX : XR) : mBin g ma mb ρ n R RX = (ma ρ n (fun s ρ1 n1 => toD s fun a => mb ρ1 n1 (fun t ρ2 n2 => toD t fun b => g a b fun z => R z ρ2 n2) RX) RX) := rfl
theorem x_un (g : G1) (ma : M) (ρ : List S) (n : Nat) (R : RK) (RX : XR) : mUn g ma ρ n R RX = (ma ρ n (fun s ρ1 n1 => toD s fun a => g a fun z => R z ρ1 n1) RX) := rfl
theorem x_and (ma mb : M) (ρ : List S) (n : Nat) (R : RK) (RX : XR) : mAnd ma mb ρ n R RX = (ma ρ n (fun s ρ1 n1 => toB s fun c => wIf c (mb ρ1 n1 R RX) (R (.dat (.bl false)) ρ1 n1)) RX) := rfl
theorem x_or (ma mb : M) (ρ : List S) (n : Nat) (R : RK) (RX : XR) : mOr ma mb ρ n R RX = (ma ρ n (fun s ρ1 n1 => toB s fun c => wIf c (R (.dat (.bl true)) ρ1 n1) (mb ρ1 n1 R RX)) RX) := rfl
theorem x_not (ma : M) (ρ : List S) (n : Nat) (R : RK) (RX : XR) : mNot ma ρ n R RX = (ma ρ n (fun s ρ1 n1 => toB s fun c => R (.dat (.bl (!c))) ρ1 n1) RX) := rfl
theorem x_ifE (mc ma mb : M) (ρ : List S) (n : Nat) (R : RK) (RX : XR) : mIfE mc ma mb ρ n R RX = (mc ρ n (fun s ρ1 n1 => toB s fun c => wIf c (ma ρ1 n1 R RX) (mb ρ1 n1 R RX)) RX) := rfl
theorem x_chain (g g' : G2) (ma mb mc : M) (ρ : List S) (n : Nat) (R : RK) (RX : XR) : mChain g g' ma mb mc ρ n R RX = (ma ρ n (fun s ρ1 n1 => toD s fun a => mb ρ1 n1 (fun t ρ2 n2 => toD t fun b => g a b fun z => toB z fun k => wIf k (mc ρ2 n2 (fun u ρ3 n3 => toD u fun c => g' b c fun y => R y ρ3 n3) RX) (R (.dat (.bl false)) ρ2 n2)) RX) RX) := rfl
theorem x_cb (g : GA) (m : MA) (ρ : List S) (n : Nat) (R : RK) (RX : XR) : mCB g m ρ n R RX = (m ρ n (fun ds ρ1 n1 => g ds fun z => R z ρ1 n1) RX) := rfl
theorem x_anil (ρ : List S) (n : Nat) (R : List D → List S → Nat → Prop) (RX : XR) : aNil ρ n R RX = (R [] ρ n) := rfl
theorem x_cons (ma : M) (m : MA) (ρ : List S) (n : Nat) (R : List D → List S → Nat → Prop) (RX : XR) : aCons ma m ρ n R RX = (ma ρ n (fun s ρ1 n1 => toD s fun d => m ρ1 n1 (fun ds ρ2 n2 => R (d :: ds) ρ2 n2) RX) RX) := rfl
theorem x_star (ma : M) (m : MA) (ρ : List S) (n : Nat) (R : List D → List S → Nat → Prop) (RX : XR) : aStar ma m ρ n R RX = (ma ρ n (fun s ρ1 n1 => toD s fun d => seqD d fun fs => m ρ1 n1 (fun ds ρ2 n2 => R (fs ++ ds) ρ2 n2) RX) RX) := rfl
theorem x_tup (m : MA) (ρ : List S) (n : Nat) (R : RK) (RX : XR) : mTup m ρ n R RX = (m ρ n (fun ds ρ1 n1 => ds.length ≤ 1000000 ∧ R (.dat (.tup ds)) ρ1 n1) RX) := rfl
theorem x_lst (m : MA) (ρ : List S) (n : Nat) (R : RK) (RX : XR) : mLst m ρ n R RX = (m ρ n (fun ds ρ1 n1 => ds.length ≤ 1000000 ∧ R (.own ds) ρ1 n1) RX) := rfl
theorem x_dic0 (ρ : List S) (n : Nat) (R : RK) (RX : XR) : mDic0 ρ n R RX = (R (.ownd []) ρ n) := rfl
theorem x_call (f : SpD) (m : MA) (ρ : List S) (n : Nat) (R : RK) (RX : XR) : mCall f m ρ n R RX = (m ρ n (fun ds ρ1 n1 => f ds n1 (fun s n2 => R s ρ1 n2) RX) RX) := rfl
theorem x_callK (f : SpD) (pm : List Nat) (nk : Nat) (ma mk : MA) (ρ : List S) (n : Nat) (R : RK) (RX : XR) : mCallK f pm nk ma mk ρ n R RX = (ma ρ n (fun ds ρ1 n1 => mk ρ1 n1 (fun es ρ2 n2 => es.length = nk ∧ f (pick pm (ds ++ es)) n2 (fun s n3 => R s ρ2 n3) RX) RX) RX) := rfl
theorem x_yes (ρ : List S) (n : Nat) (R : RK) (RX : XR) : mYes ρ n R RX = (R (.dat (.bl true)) ρ n) := rfl
theorem x_toD (d : D) (k : D → Prop) : toD (.dat d) k = (k d) := rfl
theorem x_toDo (ds : List D) (k : D → Prop) : toD (.own ds) k = (k (.lst ds)) := rfl
theorem x_toB (c : Bool) (k : Bool → Prop) : toB (.dat (.bl c)) k = (k c) := rfl
theorem x_wT (A B : Prop) : wIf true A B = (A) := by simp [wIf]
theorem x_wF (A B : Prop) : wIf false A B = (B) := by simp [wIf]
theorem x_wD (p : Prop) [Decidable p] (A B : Prop) : wIf (decide p) A B = ((p → A) ∧ (¬p → B)) := by simp [wIf]
theorem x_wN (c : Bool) (A B : Prop) : wIf (!c) A B = (wIf c B A) := by cases c <;> simp [wIf]
theorem x_wG (c : Bool) (A B : Prop) : wIf c A B = ((c = true → A) ∧ (c = false → B)) := rfl
theorem x_sub (i j : Int) (R : S → Prop) : PL.gSub (.int i) (.int j) R = (R (.dat (.int (i - j)))) := by simp [PL.gSub, gI]
theorem x_mul (i j : Int) (R : S → Prop) : gMul (.int i) (.int j) R = (PL.MulOk i j ∧ R (.dat (.int (i * j)))) := by simp [gMul, gI]
theorem x_fdv (i j : Int) (R : S → Prop) : gFdv (.int i) (.int j) R = ((0 < j ∧ j.natAbs.log2 < 9000) ∧ R (.dat (.int (i / j)))) := by simp [gFdv, gI]
theorem x_mod (i j : Int) (R : S → Prop) : gMod (.int i) (.int j) R = (0 < j ∧ R (.dat (.int (i % j)))) := by simp [gMod, gI]
theorem x_pow (i j : Int) (R : S → Prop) : gPow (.int i) (.int j) R = ((0 ≤ j ∧ (Builtin.Int.intBits i : Int) * j ≤ 2 ^ 27) ∧ R (.dat (.int (i ^ j.toNat)))) := by simp [gPow, gI]
theorem x_lt (i j : Int) (R : S → Prop) : gLt (.int i) (.int j) R = (R (.dat (.bl (decide (i < j))))) := by simp [gLt, gI]
theorem x_le (i j : Int) (R : S → Prop) : gLe (.int i) (.int j) R = (R (.dat (.bl (decide (i ≤ j))))) := by simp [gLe, gI]
theorem x_gt (i j : Int) (R : S → Prop) : gGt (.int i) (.int j) R = (R (.dat (.bl (decide (j < i))))) := by simp [gGt, gI]
theorem x_ge (i j : Int) (R : S → Prop) : gGe (.int i) (.int j) R = (R (.dat (.bl (decide (j ≤ i))))) := by simp [gGe, gI]
theorem x_addi (i j : Int) (R : S → Prop) : gAdd (.int i) (.int j) R = (R (.dat (.int (i + j)))) := rfl
theorem x_adds (x y : Str) (R : S → Prop) : gAdd (.str x) (.str y) R = (x.length + y.length ≤ 1000000 ∧ R (.dat (.str (x ++ y)))) := rfl
theorem x_addt (xs ys : List D) (R : S → Prop) : gAdd (.tup xs) (.tup ys) R = (xs.length + ys.length ≤ 1000000 ∧ R (.dat (.tup (xs ++ ys)))) := rfl
theorem x_addl (xs ys : List D) (R : S → Prop) : gAdd (.lst xs) (.lst ys) R = (xs.length + ys.length ≤ 1000000 ∧ R (.own (xs ++ ys))) := rfl
theorem x_eqi (i j : Int) (R : S → Prop) : gEq false (.int i) (.int j) R = (R (.dat (.bl (decide (i = j))))) := by simp [gEq]
theorem x_nei (i j : Int) (R : S → Prop) : gEq true (.int i) (.int j) R = (R (.dat (.bl (!decide (i = j))))) := by simp [gEq]
theorem x_eqs (i j : Str) (R : S → Prop) : gEq false (.str i) (.str j) R = (R (.dat (.bl (decide (i = j))))) := by simp [gEq]
theorem x_nes (i j : Str) (R : S → Prop) : gEq true (.str i) (.str j) R = (R (.dat (.bl (!decide (i = j))))) := by simp [gEq]
theorem x_int (a : D) (ds : List D) (R : S → Prop) : gIn false a (.tup ds) R = (flatD a = true ∧ ds.all flatD = true ∧ R (.dat (.bl (inD a ds)))) := by simp [gIn]
theorem x_nit (a : D) (ds : List D) (R : S → Prop) : gIn true a (.tup ds) R = (flatD a = true ∧ ds.all flatD = true ∧ R (.dat (.bl (!inD a ds)))) := by simp [gIn]
theorem x_inl (a : D) (ds : List D) (R : S → Prop) : gIn false a (.lst ds) R = (flatD a = true ∧ ds.all flatD = true ∧ R (.dat (.bl (inD a ds)))) := by simp [gIn]
theorem x_nil (a : D) (ds : List D) (R : S → Prop) : gIn true a (.lst ds) R = (flatD a = true ∧ ds.all flatD = true ∧ R (.dat (.bl (!inD a ds)))) := by simp [gIn]
theorem x_isN (a : D) (R : S → Prop) : gIsN false a .non R = (R (.dat (.bl (isNon a)))) := by simp [gIsN]
theorem x_notN (a : D) (R : S → Prop) : gIsN true a .non R = (R (.dat (.bl (!isNon a)))) := by simp [gIsN]
theorem x_neg (i : Int) (R : S → Prop) : gNeg (.int i) R = (R (.dat (.int (-i)))) := rfl
theorem x_lens (x : Str) (R : S → Prop) : gLen [.str x] R = (x.length ≤ 1000000 ∧ R (.dat (.int (x.length : Nat)))) := rfl
theorem x_lent (xs : List D) (R : S → Prop) : gLen [.tup xs] R = (R (.dat (.int (xs.length : Nat)))) := rfl
theorem x_lenl (xs : List D) (R : S → Prop) : gLen [.lst xs] R = (R (.dat (.int (xs.length : Nat)))) := rfl
theorem x_abs (i : Int) (R : S → Prop) : gAbs [.int i] R = (R (.dat (.int (i.natAbs : Int)))) := by
  have e : (if i < 0 then -i else i) = (i.natAbs : Int) := by split <;> omega
  show R (.dat (.int (if i < 0 then -i else i))) = _
  rw [e]
theorem x_inti (i : Int) (R : S → Prop) : gInt [.int i] R = (R (.dat (.int i))) := rfl
theorem x_intb (k : Bool) (R : S → Prop) : gInt [.bl k] R = (R (.dat (.int (if k then 1 else 0)))) := rfl
theorem x_max (i j : Int) (R : S → Prop) : gMax [.int i, .int j] R = (R (.dat (.int (max i j)))) := by
  have e : (if j > i then j else i) = max i j := by split <;> omega
  show R (.dat (.int (if j > i then j else i))) = _
  rw [e]
theorem x_min (i j : Int) (R : S → Prop) : gMin [.int i, .int j] R = (R (.dat (.int (min i j)))) := by
  have e : (if j < i then j else i) = min i j := by split <;> omega
  show R (.dat (.int (if j < i then j else i))) = _
  rw [e]
theorem x_tofl (xs : List D) (R : S → Prop) : gTupOf [.lst xs] R = (R (.dat (.tup xs))) := rfl
theorem x_toft (xs : List D) (R : S → Prop) : gTupOf [.tup xs] R = (R (.dat (.tup xs))) := rfl
theorem x_lofl (xs : List D) (R : S → Prop) : gLstOf [.lst xs] R = (R (.own xs)) := rfl
theorem x_loft (xs : List D) (R : S → Prop) : gLstOf [.tup xs] R = (R (.own xs)) := rfl
theorem x_iseq (m : M) (ρ : List S) (n : Nat) (R : List D → List S → Nat → Prop) (RX : XR) : iSeq m ρ n R RX = (m ρ n (fun s ρ1 n1 => toD s fun d => seqD d fun ds => R ds ρ1 n1) RX) := rfl
theorem x_sqt (ds : List D) (k : List D → Prop) : seqD (.tup ds) k = (k ds) := rfl
theorem x_sql (ds : List D) (k : List D → Prop) : seqD (.lst ds) k = (k ds) := rfl
theorem x_turn (gt : D → List S → (List S → Prop) → Prop) (mt me : M) (ρ : List S) (d : D) (acc : List D) (n : Nat) (Kx : List D → Nat → Prop) : lcTurn gt mt me ρ d acc n Kx = (gt d ρ fun ρ2 => mt ρ2 n (fun s ρ3 n3 => ρ3 = ρ2 ∧ toB s fun c => wIf c (me ρ2 n3 (fun t ρ4 n4 => ρ4 = ρ2 ∧ toD t fun e => acc.length < 1000000 ∧ Kx (acc ++ [e]) n4) RX0) (Kx acc n3)) RX0) := rfl
theorem x_forc (gt : D → List S → (List S → Prop) → Prop) (u : MS) (DD : ED) (d : D) (ds : List D) (ρ : List S) (n : Nat) : forL gt u DD (d :: ds) ρ n = (gt d ρ fun ρ1 => u { DD with nx := forL gt u DD ds, ct := forL gt u DD ds, bk := DD.nx } ρ1 n) := rfl
theorem x_forn (gt : D → List S → (List S → Prop) → Prop) (u : MS) (DD : ED) (ρ : List S) (n : Nat) : forL gt u DD [] ρ n = (DD.nx ρ n) := rfl
theorem x_lcc (gt : D → List S → (List S → Prop) → Prop) (mt me : M) (ρ : List S) (Kx : List D → Nat → Prop) (d : D) (ds acc : List D) (n : Nat) : lcL gt mt me ρ Kx (d :: ds) acc n = (lcTurn gt mt me ρ d acc n fun acc' n' => lcL gt mt me ρ Kx ds acc' n') := rfl
theorem x_lcn (gt : D → List S → (List S → Prop) → Prop) (mt me : M) (ρ : List S) (Kx : List D → Nat → Prop) (acc : List D) (n : Nat) : lcL gt mt me ρ Kx [] acc n = (Kx acc n) := rfl
theorem x_lstR1 (ma : M) (ρ : List S) (n : Nat) (R : RK) (RX : XR) : mLstR1 ma ρ n R RX = (ma ρ n (fun s ρ1 n1 => toD s fun d => rgK d fun j => 0 ≤ j ∧ j ≤ 1000000 ∧ R (.own (rngD 0 j)) ρ1 n1) RX) := by
  unfold mLstR1; simp only [rgK]
theorem x_rg1 (m : MA) (ρ : List S) (n : Nat) (R : List D → List S → Nat → Prop) (RX : XR) : iRg1 m ρ n R RX = (m ρ n (fun ds ρ1 n1 => rgK1 ds fun j => -(2 ^ 60) ≤ j ∧ j ≤ 2 ^ 60 ∧ R (rngD 0 j) ρ1 n1) RX) := by
  unfold iRg1; simp only [rgK1]
theorem x_rg2 (m : MA) (ρ : List S) (n : Nat) (R : List D → List S → Nat → Prop) (RX : XR) : iRg2 m ρ n R RX = (m ρ n (fun ds ρ1 n1 => rgK2 ds fun i j => -(2 ^ 60) ≤ i ∧ i ≤ 2 ^ 60 ∧ -(2 ^ 60) ≤ j ∧ j ≤ 2 ^ 60 ∧ R (rngD i j) ρ1 n1) RX) := by
  unfold iRg2; simp only [rgK2]
theorem x_rgK (j : Int) (k : Int → Prop) : rgK (.int j) k = (k j) := by simp [rgK]
theorem x_rgK1 (j : Int) (k : Int → Prop) : rgK1 [.int j] k = (k j) := by simp [rgK1]
theorem x_rgK2 (i j : Int) (k : Int → Int → Prop) : rgK2 [.int i, .int j] k = (k i j) := propext ⟨fun ⟨_, _, e, h⟩ => by cases e; exact h, fun h => ⟨_, _, rfl, h⟩⟩
theorem x_isi_non_int (R : S → Prop) : gIsi [.non, .ty "int"] R = (R (.dat (.bl false))) := by unfold gIsi; rfl
theorem x_isi_non_bool (R : S → Prop) : gIsi [.non, .ty "bool"] R = (R (.dat (.bl false))) := by unfold gIsi; rfl
theorem x_isi_non_str (R : S → Prop) : gIsi [.non, .ty "str"] R = (R (.dat (.bl false))) := by unfold gIsi; rfl
theorem x_isi_non_tuple (R : S → Prop) : gIsi [.non, .ty "tuple"] R = (R (.dat (.bl false))) := by unfold gIsi; rfl
theorem x_isi_non_list (R : S → Prop) : gIsi [.non, .ty "list"] R = (R (.dat (.bl false))) := by unfold gIsi; rfl
theorem x_isi_bl_int (b : Bool) (R : S → Prop) : gIsi [.bl b, .ty "int"] R = (R (.dat (.bl true))) := by unfold gIsi; rfl
theorem x_isi_bl_bool (b : Bool) (R : S → Prop) : gIsi [.bl b, .ty "bool"] R = (R (.dat (.bl true))) := by unfold gIsi; rfl
theorem x_isi_bl_str (b : Bool) (R : S → Prop) : gIsi [.bl b, .ty "str"] R = (R (.dat (.bl false))) := by unfold gIsi; rfl
theorem x_isi_bl_tuple (b : Bool) (R : S → Prop) : gIsi [.bl b, .ty "tuple"] R = (R (.dat (.bl false))) := by unfold gIsi; rfl
theorem x_isi_bl_list (b : Bool) (R : S → Prop) : gIsi [.bl b, .ty "list"] R = (R (.dat (.bl false))) := by unfold gIsi; rfl
theorem x_isi_int_int (i : Int) (R : S → Prop) : gIsi [.int i, .ty "int"] R = (R (.dat (.bl true))) := by unfold gIsi; rfl
theorem x_isi_int_bool (i : Int) (R : S → Prop) : gIsi [.int i, .ty "bool"] R = (R (.dat (.bl false))) := by unfold gIsi; rfl
theorem x_isi_int_str (i : Int) (R : S → Prop) : gIsi [.int i, .ty "str"] R = (R (.dat (.bl false))) := by unfold gIsi; rfl
theorem x_isi_int_tuple (i : Int) (R : S → Prop) : gIsi [.int i, .ty "tuple"] R = (R (.dat (.bl false))) := by unfold gIsi; rfl
theorem x_isi_int_list (i : Int) (R : S → Prop) : gIsi [.int i, .ty "list"] R = (R (.dat (.bl false))) := by unfold gIsi; rfl
theorem x_isi_str_int (x : Str) (R : S → Prop) : gIsi [.str x, .ty "int"] R = (R (.dat (.bl false))) := by unfold gIsi; rfl
theorem x_isi_str_bool (x : Str) (R : S → Prop) : gIsi [.str x, .ty "bool"] R = (R (.dat (.bl false))) := by unfold gIsi; rfl
theorem x_isi_str_str (x : Str) (R : S → Prop) : gIsi [.str x, .ty "str"] R = (R (.dat (.bl true))) := by unfold gIsi; rfl
theorem x_isi_str_tuple (x : Str) (R : S → Prop) : gIsi [.str x, .ty "tuple"] R = (R (.dat (.bl false))) := by unfold gIsi; rfl
theorem x_isi_str_list (x : Str) (R : S → Prop) : gIsi [.str x, .ty "list"] R = (R (.dat (.bl false))) := by unfold gIsi; rfl
theorem x_isi_tup_int (xs : List D) (R : S → Prop) : gIsi [.tup xs, .ty "int"] R = (R (.dat (.bl false))) := by unfold gIsi; rfl
theorem x_isi_tup_bool (xs : List D) (R : S → Prop) : gIsi [.tup xs, .ty "bool"] R = (R (.dat (.bl false))) := by unfold gIsi; rfl
theorem x_isi_tup_str (xs : List D) (R : S → Prop) : gIsi [.tup xs, .ty "str"] R = (R (.dat (.bl false))) := by unfold gIsi; rfl
theorem x_isi_tup_tuple (xs : List D) (R : S → Prop) : gIsi [.tup xs, .ty "tuple"] R = (R (.dat (.bl true))) := by unfold gIsi; rfl
theorem x_isi_tup_list (xs : List D) (R : S → Prop) : gIsi [.tup xs, .ty "list"] R = (R (.dat (.bl false))) := by unfold gIsi; rfl
theorem x_isi_lst_int (xs : List D) (R : S → Prop) : gIsi [.lst xs, .ty "int"] R = (R (.dat (.bl false))) := by unfold gIsi; rfl
theorem x_isi_lst_bool (xs : List D) (R : S → Prop) : gIsi [.lst xs, .ty "bool"] R = (R (.dat (.bl false))) := by unfold gIsi; rfl
theorem x_isi_lst_str (xs : List D) (R : S → Prop) : gIsi [.lst xs, .ty "str"] R = (R (.dat (.bl false))) := by unfold gIsi; rfl
theorem x_isi_lst_tuple (xs : List D) (R : S → Prop) : gIsi [.lst xs, .ty "tuple"] R = (R (.dat (.bl false))) := by unfold gIsi; rfl
theorem x_isi_lst_list (xs : List D) (R : S → Prop) : gIsi [.lst xs, .ty "list"] R = (R (.dat (.bl true))) := by unfold gIsi; rfl
def blK (xs : List D) (k : List Bool → Prop) : Prop := ∃ ns, blsD xs = some ns ∧ k ns
def itK (xs : List D) (k : List Int → Prop) : Prop := ∃ ns, intsD xs = some ns ∧ k ns
theorem x_all (xs : List D) (R : S → Prop) : gAll [.lst xs] R = blK xs fun ns => R (.dat (.bl (ns.all id))) := rfl
theorem x_any (xs : List D) (R : S → Prop) : gAny [.lst xs] R = blK xs fun ns => R (.dat (.bl (ns.any id))) := rfl
theorem x_sum (xs : List D) (R : S → Prop) : gSum [.lst xs] R = itK xs fun ns => R (.dat (.int ns.sum)) := rfl
theorem x_bln (k : List Bool → Prop) : blK [] k = k [] := by simp [blK, blsD]
theorem x_blc (b : Bool) (xs : List D) (k : List Bool → Prop) : blK (.bl b :: xs) k = blK xs fun ns => k (b :: ns) := by
  unfold blK; rw [show blsD (.bl b :: xs) = (blsD xs).map (b :: ·) from rfl]
  cases blsD xs <;> simp
theorem x_itn (k : List Int → Prop) : itK [] k = k [] := by simp [itK, intsD]
theorem x_itc (b : Int) (xs : List D) (k : List Int → Prop) : itK (.int b :: xs) k = itK xs fun ns => k (b :: ns) := by
  unfold itK; rw [show intsD (.int b :: xs) = (intsD xs).map (b :: ·) from rfl]
  cases intsD xs <;> simp
theorem blK_map (f : D → Bool) (es : List D) (k : List Bool → Prop) : blK (es.map fun e => D.bl (f e)) k = k (es.map f) := by
  have : ∀ es : List D, blsD (es.map fun e => D.bl (f e)) = some (es.map f) := by
    intro es
    induction es with
    | nil => rfl
    | cons e es ih => rw [List.map_cons, List.map_cons]; unfold blsD; rw [ih]; rfl
  simp [blK, this]
theorem blK_of {α : Type} (f : α → Bool) (es : List α) (k : List Bool → Prop) : blK (es.map fun e => D.bl (f e)) k = k (es.map f) := by
  have : ∀ es : List α, blsD (es.map fun e => D.bl (f e)) = some (es.map f) := by
    intro es
    induction es with
    | nil => rfl
    | cons e es ih => rw [List.map_cons, List.map_cons]; unfold blsD; rw [ih]; rfl
  simp [blK, this]
theorem itK_of (ns : List Int) (k : List Int → Prop) : itK (ns.map D.int) k = k ns := by
  have : ∀ es : List Int, intsD (es.map D.int) = some es := by
    intro es
    induction es with
    | nil => rfl
    | cons e es ih => rw [List.map_cons]; unfold intsD; rw [ih]; rfl
  simp [itK, this]
end PL

set_option Elab.async false
set_option linter.all false
set_option maxRecDepth 100000
set_option maxHeartbeats 4000000
namespace PL
open PySem L2
/-! ### draws, cuts -/
def potB : Int := 2 ^ 1100
theorem potB_eq : potB = 2 ^ 1100 := rfl
theorem x_pot0 (i : Nat) (ρ : List S) (n : Nat) (R : RK) (RX : XR) : mPotIdx i (mC (.int 0)) ρ n R RX = ((lkK ρ i fun s => match s with | .dat .pot => True | _ => False) ∧ ∀ x : Int, 0 ≤ x → x < potB → R (.dat (.int x)) ρ n) := by
  rw [x_potIdx]
  refine propext ⟨fun ⟨h1, k, e, h⟩ => ⟨h1, ?_⟩, fun ⟨h1, h⟩ => ⟨h1, _, rfl, ?_⟩⟩
  · cases e; simpa [potB] using h
  · simpa [potB] using h
theorem x_pot1 (i : Nat) (ρ : List S) (n : Nat) (R : RK) (RX : XR) : mPotIdx i (mC (.int 1)) ρ n R RX = ((lkK ρ i fun s => match s with | .dat .pot => True | _ => False) ∧ ∀ x : Int, 0 ≤ x → x < 2 ^ 62 → R (.dat (.int x)) ρ n) := by
  rw [x_potIdx]
  refine propext ⟨fun ⟨h1, k, e, h⟩ => ⟨h1, ?_⟩, fun ⟨h1, h⟩ => ⟨h1, _, rfl, ?_⟩⟩
  · cases e; simpa [potB] using h
  · simpa [potB] using h
theorem x_pot2 (i : Nat) (ρ : List S) (n : Nat) (R : RK) (RX : XR) : mPotIdx i (mC (.int 2)) ρ n R RX = ((lkK ρ i fun s => match s with | .dat .pot => True | _ => False) ∧ ∀ x : Int, 0 ≤ x → x ≤ n → R (.dat (.int x)) ρ n) := by
  rw [x_potIdx]
  refine propext ⟨fun ⟨h1, k, e, h⟩ => ⟨h1, ?_⟩, fun ⟨h1, h⟩ => ⟨h1, _, rfl, ?_⟩⟩
  · cases e; simpa [potB] using h
  · simpa [potB] using h
def vK (d : D) (k : Int → Prop) : Prop := ∃ v, d = .int v ∧ k v
theorem x_vK (v : Int) (k : Int → Prop) : vK (.int v) k = k v := by simp [vK]
theorem x_pset0 (i : Nat) (mv : M) (DD : ED) (ρ : List S) (n : Nat) : sPotSet i mv (mC (.int 0)) DD ρ n = mv ρ n (fun s ρ1 n1 => toD s fun d => (lkK ρ1 i fun s => match s with | .dat .pot => True | _ => False) ∧ vK d fun v => 0 ≤ v ∧ v < potB ∧ DD.nx ρ1 n1) DD.ex := by
  rw [x_potSet]
  refine congrFun (congrArg _ (funext fun s => funext fun ρ1 => funext fun n1 => congrArg _ (funext fun d => propext ⟨fun ⟨h1, h⟩ => ⟨h1, ?_⟩, fun ⟨h1, h⟩ => ⟨h1, ?_⟩⟩))) _
  · obtain ⟨v, k, e1, e2, h⟩ := h
    cases e2
    exact ⟨v, e1, by simpa [potB] using h⟩
  · obtain ⟨v, e1, h⟩ := h
    exact ⟨v, _, e1, rfl, by simpa [potB] using h⟩
theorem x_pset2 (i : Nat) (mv : M) (DD : ED) (ρ : List S) (n : Nat) : sPotSet i mv (mC (.int 2)) DD ρ n = mv ρ n (fun s ρ1 n1 => toD s fun d => (lkK ρ1 i fun s => match s with | .dat .pot => True | _ => False) ∧ vK d fun v => 0 ≤ v ∧ v ≤ n1 + 1 ∧ DD.nx ρ1 (n1 + 1)) DD.ex := by
  rw [x_potSet]
  refine congrFun (congrArg _ (funext fun s => funext fun ρ1 => funext fun n1 => congrArg _ (funext fun d => propext ⟨fun ⟨h1, h⟩ => ⟨h1, ?_⟩, fun ⟨h1, h⟩ => ⟨h1, ?_⟩⟩))) _
  · obtain ⟨v, k, e1, e2, h⟩ := h
    cases e2
    exact ⟨v, e1, by simpa [potB] using h⟩
  · obtain ⟨v, e1, h⟩ := h
    exact ⟨v, _, e1, rfl, by simpa [potB] using h⟩
theorem x_cutnn (ma : M) (ρ : List S) (n : Nat) (R : RK) (RX : XR) : mCut ma none none ρ n R RX = ma ρ n (fun s ρ1 n1 => toD s fun a => gCut a none none fun z => R z ρ1 n1) RX := rfl
theorem x_cutns (ma mb : M) (ρ : List S) (n : Nat) (R : RK) (RX : XR) : mCut ma none (some mb) ρ n R RX = ma ρ n (fun s ρ1 n1 => toD s fun a => mb ρ1 n1 (fun t ρ2 n2 => toD t fun b => vK b fun j => gCut a none (some j) fun z => R z ρ2 n2) RX) RX := by
  unfold mCut oPart
  refine congrFun (congrArg _ (funext fun s => funext fun ρ1 => funext fun n1 => congrArg _ (funext fun d => ?_))) _
  simp only [oPart]
  refine congrFun (congrArg _ (funext fun s => funext fun ρ1 => funext fun n1 => ?_)) _
  cases s with
  | dat d => cases d <;> simp [toD, vK]
  | un => simp [toD]
  | own ds => simp [toD, vK]
  | ownd ds => simp [toD]
theorem x_cutsn (ma mb : M) (ρ : List S) (n : Nat) (R : RK) (RX : XR) : mCut ma (some mb) none ρ n R RX = ma ρ n (fun s ρ1 n1 => toD s fun a => mb ρ1 n1 (fun t ρ2 n2 => toD t fun b => vK b fun i => gCut a (some i) none fun z => R z ρ2 n2) RX) RX := by
  unfold mCut
  refine congrFun (congrArg _ (funext fun s => funext fun ρ1 => funext fun n1 => congrArg _ (funext fun d => ?_))) _
  simp only [oPart]
  refine congrFun (congrArg _ (funext fun s => funext fun ρ1 => funext fun n1 => ?_)) _
  cases s with
  | dat d => cases d <;> simp [toD, vK]
  | un => simp [toD]
  | own ds => simp [toD, vK]
  | ownd ds => simp [toD]
theorem x_cutl (ds : List D) (i j : Option Int) (R : S → Prop) : gCut (.lst ds) i j R = R (.own (cutD ds i j)) := rfl
theorem x_cutt (ds : List D) (i j : Option Int) (R : S → Prop) : gCut (.tup ds) i j R = R (.dat (.tup (cutD ds i j))) := rfl
theorem atI_nat {ds : List D} {i : Int} {d : D} (h0 : 0 ≤ i) (h : ds[i.toNat]? = some d) : atI ds i = some d := by
  have hl := (List.getElem?_eq_some_iff.mp h).1
  unfold atI ixN
  rw [if_pos h0, if_pos (by omega)]
  exact h
theorem atK_ints {ns : List Int} {i : Int} {k : D → Prop} (h0 : 0 ≤ i) (h1 : i < ns.length) (h : ∀ v ∈ ns, k (.int v)) : atK (ns.map D.int) i k := by
  have hl : i.toNat < ns.length := by omega
  refine ⟨.int ns[i.toNat], atI_nat h0 (by rw [List.getElem?_map, List.getElem?_eq_getElem hl]; rfl), h _ (List.getElem_mem hl)⟩
theorem atK_mem {ds : List D} {i : Int} {k : D → Prop} (h0 : 0 ≤ i) (h1 : i < ds.length) (h : ∀ d ∈ ds, k d) : atK ds i k := by
  have hl : i.toNat < ds.length := by omega
  exact ⟨ds[i.toNat], atI_nat h0 (List.getElem?_eq_getElem hl), h _ (List.getElem_mem hl)⟩
theorem bits_le {i : Int} {k : Nat} (h0 : 0 ≤ i) (h : i < 2 ^ k) : Builtin.Int.intBits i ≤ k := by
  unfold Builtin.Int.intBits
  split
  · omega
  · rename_i hi
    have hn : i.natAbs ≠ 0 := by simp at hi; omega
    have : i.natAbs < 2 ^ k := by
      have e : ((2 ^ k : Nat) : Int) = 2 ^ k := by simp
      omega
    have := (Nat.log2_lt hn).mpr this
    omega
theorem cut_first (ns : List Int) : cutD (ns.map D.int) none (some 1) = (ns.take 1).map D.int := by
  cases ns with
  | nil => rfl
  | cons a l =>
    unfold cutD
    rw [List.length_map, List.length_cons]
    have e1 : HT.sIx (l.length + 1) 0 none = 0 := rfl
    have e2 : HT.sIx (l.length + 1) (l.length + 1) (some 1) = 1 := by
      rw [show (1 : Int) = ((1 : Nat) : Int) from rfl, HT.sIx_nat]; omega
    rw [e1, e2]; rfl
theorem own_ok (x m : Int) (p : Prop) [Decidable p] (hm : 0 < m) (hm2 : m < 2 ^ 1100) : 0 ≤ x % m * (if p then 1 else 0) ∧ x % m * (if p then 1 else 0) < 2 ^ 1100 := by
  have h1 := Int.emod_nonneg x (show m ≠ 0 by omega)
  have h2 := Int.emod_lt_of_pos x hm
  generalize (2 : Int) ^ 1100 = B at *
  split <;> simp <;> omega
theorem div_pot {x k : Int} (h1 : 1 ≤ k) (hx : 0 ≤ x) (hb : x < potB) : 0 ≤ x / k ∧ x / k < potB := by
  have h2 := Int.ediv_nonneg hx (show 0 ≤ k by omega)
  have h3 := Int.ediv_le_self k hx
  generalize potB = B at *
  omega
theorem mod_in {x k : Int} (h1 : 1 ≤ k) : 0 ≤ x % k ∧ x % k < k := ⟨Int.emod_nonneg _ (by omega), Int.emod_lt_of_pos _ (by omega)⟩
theorem log2_60 {b : Int} (h : 1 ≤ b) (h2 : b < 2 ^ 64) : 0 < b ∧ b.natAbs.log2 < 9000 := by
  have : b.natAbs.log2 < 64 := (Nat.log2_lt (by omega)).mpr (by omega)
  omega
theorem bits3 {i : Int} (h0 : 0 ≤ i) (h : i < 2 ^ 64) (e : Int) (he : e ≤ 1000) (he0 : 0 ≤ e) : (Builtin.Int.intBits i : Int) * e ≤ 134217728 := by
  have := bits_le h0 h
  have h1 : (Builtin.Int.intBits i : Int) ≤ 64 := by omega
  have h2 : (Builtin.Int.intBits i : Int) * e ≤ 64 * e := Int.mul_le_mul_of_nonneg_right h1 he0
  omega
theorem mul_bd {a b A B : Int} (ha : 0 ≤ a) (hA : a ≤ A) (hb : 0 ≤ b) (hB : b ≤ B) : 0 ≤ a * b ∧ a * b ≤ A * B :=
  ⟨Int.mul_nonneg ha hb, Int.mul_le_mul hA hB hb (Int.le_trans ha hA)⟩
theorem MulOk.modl {i j p : Int} (h : 0 < p) (h2 : p < 2 ^ 64) : PL.MulOk (i % p) j := by
  have h1 := mod_in (x := i) (k := p) (by omega)
  exact .l (by omega) (by omega)
/-! ### what the top has written -/
theorem gc_int {K : PySem.W.Frag} {mg : Str → Option Value} {h : Heap} {x : Str} {i : Int} {t : Tok} (X : K.In h) (G : h.Ns mainGlobals mg) (a : PySem.W.nsIn K mainGlobals x = some (some (.int i t))) : GC K mg x (.int i) :=
  ⟨.int i, .int i t, PySem.W.mg_of X G a, ⟨t, rfl⟩, fun _ => .int i⟩
theorem gc_str {K : PySem.W.Frag} {mg : Str → Option Value} {h : Heap} {x y : Str} {t : Tok} (X : K.In h) (G : h.Ns mainGlobals mg) (a : PySem.W.nsIn K mainGlobals x = some (some (.str y t))) : GC K mg x (.str y) :=
  ⟨.str y, .str y t, PySem.W.mg_of X G a, ⟨t, rfl⟩, fun _ => .str y⟩
/-- the values of a tuple of the top -/
def TV (K : PySem.W.Frag) (us : List Value) (ds : List D) : Prop := ∃ vs : List V, Vals vs us ∧ ∀ W, DRs K W vs ds
theorem tv_nil {K : PySem.W.Frag} : TV K [] [] := ⟨[], .nil, fun _ => .nil⟩
theorem tv_int {K : PySem.W.Frag} {us : List Value} {ds : List D} {i : Int} {t : Tok} (h : TV K us ds) : TV K (.int i t :: us) (.int i :: ds) := by
  obtain ⟨vs, a, b⟩ := h
  exact ⟨.int i :: vs, .cons ⟨t, rfl⟩ a, fun W => .cons (.int i) (b W)⟩
theorem tv_str {K : PySem.W.Frag} {us : List Value} {ds : List D} {x : Str} {t : Tok} (h : TV K us ds) : TV K (.str x t :: us) (.str x :: ds) := by
  obtain ⟨vs, a, b⟩ := h
  exact ⟨.str x :: vs, .cons ⟨t, rfl⟩ a, fun W => .cons (.str x) (b W)⟩
theorem gc_tup {K : PySem.W.Frag} {mg : Str → Option Value} {h : Heap} {x : Str} {p : Addr} {od : Option Addr} {its : Array Value} {n : Nat} {sl : Array (Option Value)} {ds : List D} (X : K.In h) (G : h.Ns mainGlobals mg) (a : PySem.W.nsIn K mainGlobals x = some (some (.ref p)))
    (l : K.lookup p = some ⟨.type "tuple", od, .seq its n, sl⟩) (v : TV K its.toList ds) (hs : ds.length ≤ 1000000) : GC K mg x (.tup ds) := by
  obtain ⟨vs, v1, v2⟩ := v
  refine ⟨.ref p, .ref p, PySem.W.mg_of X G a, rfl, fun W => .tup (.inr ⟨_, its, n, l, rfl, rfl, ?_, v1⟩) (v2 W)⟩
  have e1 := (v2 W).length
  have e2 := v1.length
  rw [← Array.length_toList]
  exact sq_line (by omega)
section
variable {P : Program} {w : World} {K : PySem.W.Frag} {mg : Str → Option Value} {base : Heap} {k : Nat} {fa : Addr} {fd : FuncData} {ps N : List Str} {x : Str} {st : Stmt}
theorem def_fn {ms : MS} {g : SpD} (F : Def K mg x st ps fa fd) (SC : FnScope N ps (defScope st))
    (body : ∀ (cdv : Value) (A : Around) (outer : List Env) (s : Shared) (H : Hp), Ctx (bodyX P w K mg base N x st fa cdv A outer s H) (G0 K mg) → Room k (bodyX P w K mg base N x st fa cdv A outer s H).A →
      PSs (bodyX P w K mg base N x st fa cdv A outer s H) (defBody st) (tsOf (G0 K mg) ms))
    (sat : ∀ ds n R RX, g ds n R RX → fnM ps.length N.length ms ds n R fun _ _ _ => False) : FnG P w K mg base CX0 (k + 1) fa fd ps (toSp K mg g) := (fn_d F.fn SC body).imp sat
theorem cal_of {g : SpD} (F : Def K mg x st ps fa fd) (h : FnG P w K mg base CX0 k fa fd ps (toSp K mg g)) : Cal P w K mg base x k ps g := ⟨fa, fd, F.mg, F.fn.kp, F.b, h⟩
theorem calk_of {g : SpD} {ks : List Str} {np : Nat} {pm : List Nat} (F : Def K mg x st ps fa fd) (hk : KwB fd ps ks np pm) (h : FnG P w K mg base CX0 k fa fd ps (toSp K mg g)) : CalK P w K mg base x k ps ks np pm g := ⟨fa, fd, F.mg, F.fn.kp, hk, h⟩
end
theorem bt_len : bootBuiltins "len" = some (.builtin "len") := by decide +kernel
theorem bt_abs : bootBuiltins "abs" = some (.builtin "abs") := by decide +kernel
theorem bt_isinstance : bootBuiltins "isinstance" = some (.builtin "isinstance") := by decide +kernel
theorem bt_max : bootBuiltins "max" = some (.builtin "max") := by decide +kernel
theorem bt_min : bootBuiltins "min" = some (.builtin "min") := by decide +kernel
theorem bt_sum : bootBuiltins "sum" = some (.builtin "sum") := by decide +kernel
theorem bt_all : bootBuiltins "all" = some (.builtin "all") := by decide +kernel
theorem bt_any : bootBuiltins "any" = some (.builtin "any") := by decide +kernel
theorem bt_repr : bootBuiltins "repr" = some (.builtin "repr") := by decide +kernel
theorem bt_sorted : bootBuiltins "sorted" = some (.builtin "sorted") := by decide +kernel
theorem bt_int : bootBuiltins "int" = some (.type "int") := by decide +kernel
theorem bt_bool : bootBuiltins "bool" = some (.type "bool") := by decide +kernel
theorem bt_str : bootBuiltins "str" = some (.type "str") := by decide +kernel
theorem bt_tuple : bootBuiltins "tuple" = some (.type "tuple") := by decide +kernel
theorem bt_list : bootBuiltins "list" = some (.type "list") := by decide +kernel
theorem bt_dict : bootBuiltins "dict" = some (.type "dict") := by decide +kernel
theorem bt_set : bootBuiltins "set" = some (.type "set") := by decide +kernel
theorem bt_range : bootBuiltins "range" = some (.type "range") := by decide +kernel
theorem blk_of {X : Cx} {N : List Str} {sc scope : Scope} {own : List (Str × Nat)} (hN : X.N = N) (hs : X.env.scope = sc) (h : blkC N sc scope own = true) : BlkOk X.N X.env.scope scope own := by
  rw [hN, hs]; exact blkOk_by h
theorem blk_g {X : Cx} {G : Gx} {scope : Scope} {tg : Expr} {g : TG} (c : Ctx X G) (h : ∀ (s : Shared) (H : Hp) (C : Addr) (cl : List (Str × Addr)) (fp : List Addr), Ctx (X.blk s H scope (compEnvC scope cl C X.env) fp) G.quiet → PG (X.blk s H scope (compEnvC scope cl C X.env) fp) tg g) : ∀ (s : Shared) (H : Hp) (C : Addr) (cl : List (Str × Addr)) (fp : List Addr), PG (X.blk s H scope (compEnvC scope cl C X.env) fp) tg g := fun s H C cl fp => h s H C cl fp (c.blk _ _ _ _ _)
theorem blk_t {X : Cx} {G : Gx} {scope : Scope} {ifs : List Expr} {tt : TT} (c : Ctx X G) (h : ∀ (s : Shared) (H : Hp) (C : Addr) (cl : List (Str × Addr)) (fp : List Addr), Ctx (X.blk s H scope (compEnvC scope cl C X.env) fp) G.quiet → PTs (X.blk s H scope (compEnvC scope cl C X.env) fp) ifs tt) : ∀ (s : Shared) (H : Hp) (C : Addr) (cl : List (Str × Addr)) (fp : List Addr), PTs (X.blk s H scope (compEnvC scope cl C X.env) fp) ifs tt := fun s H C cl fp => h s H C cl fp (c.blk _ _ _ _ _)
theorem blk_e {X : Cx} {G : Gx} {scope : Scope} {elt : Expr} {te : TE} (c : Ctx X G) (h : ∀ (s : Shared) (H : Hp) (C : Addr) (cl : List (Str × Addr)) (fp : List Addr), Ctx (X.blk s H scope (compEnvC scope cl C X.env) fp) G.quiet → PE (X.blk s H scope (compEnvC scope cl C X.env) fp) elt te) : ∀ (s : Shared) (H : Hp) (C : Addr) (cl : List (Str × Addr)) (fp : List Addr), PE (X.blk s H scope (compEnvC scope cl C X.env) fp) elt te := fun s H C cl fp => h s H C cl fp (c.blk _ _ _ _ _)
theorem blk_i {X : Cx} {G : Gx} {scope : Scope} {tg iter : Expr} {wi : TI} (c : Ctx X G) (h : ∀ (s : Shared) (H : Hp) (C : Addr) (cl : List (Str × Addr)) (fp : List Addr), Ctx (X.blk s H scope (compEnvC scope cl C X.env) fp) G.quiet → PI (X.blk s H scope (compEnvC scope cl C X.env) fp) tg iter wi) : ∀ (s : Shared) (H : Hp) (C : Addr) (cl : List (Str × Addr)) (fp : List Addr), PI (X.blk s H scope (compEnvC scope cl C X.env) fp) tg iter wi := fun s H C cl fp => h s H C cl fp (c.blk _ _ _ _ _)
end PL

set_option Elab.async false
set_option linter.all false
set_option maxRecDepth 100000
set_option maxHeartbeats 4000000
namespace PL
open PySem L2
/-! ### things that can be compared -/
structure Eqd (k : Nat) (d : D) : Prop where
  pl : d.plain = true
  lay : d.py.canLay0 = true
  dp : d.py.depth ≤ k
theorem Eqd.le {k k' : Nat} {d : D} (h : Eqd k d) (a : k ≤ k') : Eqd k' d := ⟨h.pl, h.lay, Nat.le_trans h.dp a⟩
theorem Eqd.int (i : Int) {k : Nat} : Eqd k (.int i) := ⟨rfl, rfl, Nat.zero_le _⟩
theorem Eqd.bl (i : Bool) {k : Nat} : Eqd k (.bl i) := ⟨rfl, rfl, Nat.zero_le _⟩
theorem Eqd.non {k : Nat} : Eqd k .non := ⟨rfl, rfl, Nat.zero_le _⟩
theorem eqd_all {k : Nat} : ∀ {ds : List D}, (∀ d ∈ ds, Eqd k d) → D.plainAll ds = true ∧ PyData.canLayAll0 (D.pyAll ds) = true ∧ PyData.depthAll (D.pyAll ds) ≤ k
  | [], _ => ⟨rfl, rfl, Nat.zero_le _⟩
  | d :: ds, h => by
    obtain ⟨h1, h2, h3⟩ := eqd_all (ds := ds) fun d hd => h d (List.mem_cons_of_mem _ hd)
    have hd := h d List.mem_cons_self
    refine ⟨?_, ?_, ?_⟩
    · show (d.plain && D.plainAll ds) = true; rw [hd.pl, h1]; rfl
    · show (d.py.canLay0 && PyData.canLayAll0 (D.pyAll ds)) = true; rw [hd.lay, h2]; rfl
    · show max d.py.depth (PyData.depthAll (D.pyAll ds)) ≤ k; have := hd.dp; omega
theorem Eqd.tup {k : Nat} {ds : List D} (h : ∀ d ∈ ds, Eqd k d) : Eqd (k + 1) (.tup ds) := by
  obtain ⟨h1, h2, h3⟩ := eqd_all h
  exact ⟨h1, h2, Nat.succ_le_succ h3⟩
theorem Eqd.lst {k : Nat} {ds : List D} (h : ∀ d ∈ ds, Eqd k d) : Eqd (k + 1) (.lst ds) := by
  obtain ⟨h1, h2, h3⟩ := eqd_all h
  exact ⟨h1, h2, Nat.succ_le_succ h3⟩
theorem Eqd.ints {k : Nat} (l : List Int) : Eqd (k + 1) (tupI l) := Eqd.tup fun d hd => by
  obtain ⟨x, _, rfl⟩ := List.mem_map.mp hd
  exact Eqd.int x
theorem Eqd.shaped {k : Nat} {d : D} (h : Eqd k d) (hk : k ≤ 64) : SeqAt.shaped d.py = true := by
  show (d.py.canLay0 && decide (d.py.depth ≤ 64)) = true
  rw [h.lay, decide_eq_true (Nat.le_trans h.dp hk)]; rfl
mutual
theorem eqv_refl : ∀ d : PyData, d.hasDict = false → PyData.eqv d d = true
  | .none, _ => rfl
  | .bool b, _ => by show (b == b) = true; simp
  | .int i, _ => by show (i == i) = true; simp
  | .str x, _ => by show (x == x) = true; simp
  | .list xs, h => by show PyData.eqvAll xs xs = true; exact eqv_reflAll xs h
  | .tuple xs, h => by show PyData.eqvAll xs xs = true; exact eqv_reflAll xs h
  | .dict _, h => by cases h
theorem eqv_reflAll : ∀ ds : List PyData, PyData.hasDictAll ds = false → PyData.eqvAll ds ds = true
  | [], _ => rfl
  | d :: ds, h => by
    have h' : d.hasDict = false ∧ PyData.hasDictAll ds = false := by simpa [PyData.hasDictAll] using h
    show (PyData.eqv d d && PyData.eqvAll ds ds) = true
    rw [eqv_refl d h'.1, eqv_reflAll ds h'.2]; rfl
end
theorem Eqd.eqv {k : Nat} {d : D} (h : Eqd k d) : PyData.eqv d.py d.py = true := eqv_refl _ (PyData.hasDict_of_canLay _ h.lay)
/-- a comparison of two things that are no ints, no texts -/
theorem gEq_of {neg : Bool} {k m : Nat} {a b : D} {R : S → Prop} (ha : Eqd k a) (hb : Eqd m b) (hk : k ≤ 64) (hm : m ≤ 64) (h : R (.dat (.bl (neg ^^ PyData.eqv a.py b.py)))) : gEq neg a b R := by
  unfold gEq
  split
  · rename_i i j
    rw [show PyData.eqv (D.int i).py (D.int j).py = decide (i = j) by show (i == j) = _; rfl] at h
    exact h
  · rename_i i j
    rw [show PyData.eqv (D.str i).py (D.str j).py = decide (i = j) by
      show (i == j) = _
      by_cases e : i = j
      · subst e; simp
      · rw [decide_eq_false e]; simpa using e] at h
    exact h
  · exact ⟨ha.pl, hb.pl, ha.shaped hk, hb.shaped hm, h⟩
/-- a sequence, cut by what holds between -/
theorem seq_cut {u w : MS} {DD : ED} {ρ : List S} {n : Nat} (P : List S → Nat → Prop) (h1 : ∀ K : List S → Nat → Prop, (∀ ρ n, P ρ n → K ρ n) → u { DD with nx := K } ρ n) (h2 : ∀ ρ n, P ρ n → w DD ρ n) : sSeq u w DD ρ n := h1 (w DD) h2
end PL

set_option Elab.async false
set_option linter.all false
set_option maxRecDepth 100000
set_option maxHeartbeats 4000000
namespace PL
open PySem L2 PyProof.Rows
/-! ### dicts that the top has written -/
/-- a value of the top, as data -/
def DV (K : PySem.W.Frag) (u : Value) (d : D) : Prop := ∃ v, RelV v u ∧ ∀ W, DR K W v d
def KyV (P : Params) (u : Value) (h : Int) : Key → Prop
  | .inl i => (∃ t, u = .int i t) ∧ h = hashInt i
  | .inr x => (∃ t, u = .str x t) ∧ h = PyData.keyHash P x
/-- the entries of a dict of the top -/
inductive KE (K : PySem.W.Frag) (P : Params) : List DictEntry → List (Key × D) → Prop where
  | nil : KE K P [] []
  | cons {e : DictEntry} {es : List DictEntry} {k : Key} {d : D} {kvs : List (Key × D)} : KyV P e.key e.hash k → DV K e.val d → KE K P es kvs → KE K P (e :: es) ((k, d) :: kvs)
def KDi (K : PySem.W.Frag) (w : World) (a : Addr) (kvs : List (Key × D)) : Prop := ∃ (es : Array DictEntry) (n : Nat), K.lookup a = some ⟨.type "dict", none, .dict es n, #[]⟩ ∧ (a == sysModules) = false ∧ KE K w.params es.toList kvs
/-- a module's dict by its name -/
def GD (K : PySem.W.Frag) (mg : Str → Option Value) (w : World) (x : Str) (kvs : List (Key × D)) : Prop := ∃ a, mg x = some (.ref a) ∧ KDi K w a kvs
def isL : Key → Bool
  | .inl _ => true
  | _ => false
theorem KE.keysI {K : PySem.W.Frag} {prog : Program} {w : World} : ∀ {es : List DictEntry} {kvs : List (Key × D)}, KE K w.params es kvs → (kvs.all fun kv => isL kv.1) = true → ∀ e ∈ es, ∃ k, (intKind prog w).is k e.key = true ∧ e.hash = (intKind prog w).hash k
  | _, _, .nil, _, e, h => by cases h
  | _, _, .cons (e := e0) (k := k) h1 h2 h3, ha, e, he => by
    simp at ha
    rcases List.mem_cons.mp he with rfl | he
    · cases k with
      | inl i =>
        obtain ⟨⟨t, ht⟩, hh⟩ := h1
        exact ⟨i, by rw [ht]; exact intKind_is prog w i t, hh⟩
      | inr x => simp [isL] at ha
    · exact KE.keysI h3 (by simp; exact ha.2) e he
theorem KE.keysS {K : PySem.W.Frag} {prog : Program} {w : World} : ∀ {es : List DictEntry} {kvs : List (Key × D)}, KE K w.params es kvs → (kvs.all fun kv => !isL kv.1) = true → ∀ e ∈ es, ∃ k, (strKind prog w).is k e.key = true ∧ e.hash = (strKind prog w).hash k
  | _, _, .nil, _, e, h => by cases h
  | _, _, .cons (e := e0) (k := k) h1 h2 h3, ha, e, he => by
    simp at ha
    rcases List.mem_cons.mp he with rfl | he
    · cases k with
      | inr x =>
        obtain ⟨⟨t, ht⟩, hh⟩ := h1
        exact ⟨x, by rw [ht]; exact strKind_is prog w x t, hh⟩
      | inl i => simp [isL] at ha
    · exact KE.keysS h3 (by simp; exact ha.2) e he
theorem KE.find {K : PySem.W.Frag} {P : Params} {q : Value → Bool} {k : Key} (hq : ∀ u h k', KyV P u h k' → q u = decide (k' = k)) : ∀ {es : List DictEntry} {kvs : List (Key × D)}, KE K P es kvs →
    match es.find? (fun e => q e.key), lookD kvs k with | some e, some d => DV K e.val d | none, none => True | _, _ => False
  | _, _, .nil => trivial
  | _, _, .cons (e := e0) (es := es) (k := k0) (d := d) (kvs := kvs) h1 h2 h3 => by
    have ih := KE.find hq h3
    have e1 := hq _ _ _ h1
    unfold lookD at ih ⊢
    rw [List.find?_cons, List.find?_cons, e1]
    by_cases e : k0 = k
    · subst e; simpa using h2
    · rw [decide_eq_false e]; exact ih
def okK (kvs : List (Key × D)) : Key → Bool
  | .inl _ => kvs.all fun kv => isL kv.1
  | .inr _ => kvs.all fun kv => !isL kv.1
theorem isInt_dec (P : Params) (i : Int) (kvs : List (Key × D)) : ∀ u h k', KyV P u h k' → Value.isInt i u = decide (k' = .inl i) := fun u h k' hk => by
  cases k' with
  | inl j =>
    obtain ⟨⟨t, rfl⟩, _⟩ := hk
    by_cases e : j = i
    · subst e; simp [Value.isInt]
    · rw [decide_eq_false (fun z => e (Sum.inl.inj z))]
      simpa [Value.isInt] using e
  | inr x =>
    obtain ⟨⟨t, rfl⟩, _⟩ := hk
    rw [decide_eq_false (fun z => nomatch z)]; rfl
theorem isStr_dec (P : Params) (x : Str) (kvs : List (Key × D)) : ∀ u h k', KyV P u h k' → Value.isStrOf x u = decide (k' = .inr x) := fun u h k' hk => by
  cases k' with
  | inr y =>
    obtain ⟨⟨t, rfl⟩, _⟩ := hk
    by_cases e : y = x
    · subst e; simp [Value.isStrOf]
    · rw [decide_eq_false (fun z => e (Sum.inr.inj z))]
      simpa [Value.isStrOf] using e
  | inl i =>
    obtain ⟨⟨t, rfl⟩, _⟩ := hk
    rw [decide_eq_false (fun z => nomatch z)]; rfl
section
variable {X : Cx} {a : Addr} {kvs : List (Key × D)} {pins : List (Addr × Obj)} {σ : L2.St} {H : Hp} {s : Shared}
/-- what the library asks of a dict of the module, key by key -/
theorem kd_int (h : KDi X.K X.w a kvs) (ok : (kvs.all fun kv => isL kv.1) = true) (kin : X.K.In s.heap) : ∃ f : Int → Option Value, s.heap.MapOf (intKind X.prog X.w) a f ∧ ∀ i, match f i, lookD kvs (.inl i) with | some u, some d => DV X.K u d | none, none => True | _, _ => False := by
  obtain ⟨es, n, l, hs, ke⟩ := h
  refine ⟨fun k => findBy Value.isInt es k, ⟨_, es, n, kin _ _ l, ⟨rfl, rfl, rfl⟩, rfl, fun e he => ke.keysI ok e (Array.mem_toList_iff.mpr he), fun _ => rfl⟩, fun i => ?_⟩
  have q := ke.find (q := Value.isInt i) (k := .inl i) (isInt_dec _ i kvs)
  have e : findBy Value.isInt es i = (es.toList.find? fun e => Value.isInt i e.key).map (·.val) := by
    unfold findBy
    rw [← Array.find?_toList]
  show match findBy Value.isInt es i, lookD kvs (.inl i) with | some u, some d => DV X.K u d | none, none => True | _, _ => False
  rw [e]
  revert q
  cases es.toList.find? fun e => Value.isInt i e.key <;> cases lookD kvs (.inl i) <;> exact id
theorem kd_str (h : KDi X.K X.w a kvs) (ok : (kvs.all fun kv => !isL kv.1) = true) (kin : X.K.In s.heap) : ∃ f : Str → Option Value, s.heap.MapOf (strKind X.prog X.w) a f ∧ ∀ i, match f i, lookD kvs (.inr i) with | some u, some d => DV X.K u d | none, none => True | _, _ => False := by
  obtain ⟨es, n, l, hs, ke⟩ := h
  refine ⟨fun k => findBy Value.isStrOf es k, ⟨_, es, n, kin _ _ l, ⟨rfl, rfl, rfl⟩, rfl, fun e he => ke.keysS ok e (Array.mem_toList_iff.mpr he), fun _ => rfl⟩, fun i => ?_⟩
  have q := ke.find (q := Value.isStrOf i) (k := .inr i) (isStr_dec _ i kvs)
  have e : findBy Value.isStrOf es i = (es.toList.find? fun e => Value.isStrOf i e.key).map (·.val) := by
    unfold findBy
    rw [← Array.find?_toList]
  show match findBy Value.isStrOf es i, lookD kvs (.inr i) with | some u, some d => DV X.K u d | none, none => True | _, _ => False
  rw [e]
  revert q
  cases es.toList.find? fun e => Value.isStrOf i e.key <;> cases lookD kvs (.inr i) <;> exact id
theorem some_iff {A : Value → D → Prop} {o : Option Value} {p : Option D} (h : match o, p with | some u, some d => A u d | none, none => True | _, _ => False) : o.isSome = p.isSome := by
  cases o <;> cases p <;> first | rfl | exact h.elim
theorem op_kin (h : KDi X.K X.w a kvs) : OpR X (compareOp .In) (fun x y H Q => ∃ k, x = kV k ∧ y = .ref a ∧ okK kvs k = true ∧ Q (.bl (lookD kvs k).isSome) H) := by
  intro pins s σ H x y v u Q I rx ry ⟨k, e1, e2, ok, q⟩
  subst e1 e2
  cases ry
  cases k with
  | inl i =>
    obtain ⟨t, rfl⟩ := rx
    obtain ⟨f, hm, hf⟩ := kd_int h ok I.kIn
    refine wpAny_in_of (intKind_is X.prog X.w i t) (by obtain ⟨_, _, _, hs, _⟩ := h; exact hs) hm ?_
    rw [some_iff (hf i)]
    exact ⟨.bl _, H, I.tok _, rfl, q⟩
  | inr x =>
    obtain ⟨t, rfl⟩ := rx
    obtain ⟨f, hm, hf⟩ := kd_str h ok I.kIn
    refine wpAny_in_of (strKind_is X.prog X.w x t) (by obtain ⟨_, _, _, hs, _⟩ := h; exact hs) hm ?_
    rw [some_iff (hf x)]
    exact ⟨.bl _, H, I.tok _, rfl, q⟩
theorem op_kni (h : KDi X.K X.w a kvs) : OpR X (compareOp .NotIn) (fun x y H Q => ∃ k, x = kV k ∧ y = .ref a ∧ okK kvs k = true ∧ Q (.bl (!(lookD kvs k).isSome)) H) := by
  intro pins s σ H x y v u Q I rx ry ⟨k, e1, e2, ok, q⟩
  subst e1 e2
  cases ry
  cases k with
  | inl i =>
    obtain ⟨t, rfl⟩ := rx
    obtain ⟨f, hm, hf⟩ := kd_int h ok I.kIn
    refine wpAny_notIn_of (intKind_is X.prog X.w i t) (by obtain ⟨_, _, _, hs, _⟩ := h; exact hs) hm ?_
    rw [some_iff (hf i)]
    exact ⟨.bl _, H, I.tok _, rfl, q⟩
  | inr x =>
    obtain ⟨t, rfl⟩ := rx
    obtain ⟨f, hm, hf⟩ := kd_str h ok I.kIn
    refine wpAny_notIn_of (strKind_is X.prog X.w x t) (by obtain ⟨_, _, _, hs, _⟩ := h; exact hs) hm ?_
    rw [some_iff (hf x)]
    exact ⟨.bl _, H, I.tok _, rfl, q⟩
theorem op_kix (h : KDi X.K X.w a kvs) : IxR X (fun x y H Q => ∃ k d, x = .ref a ∧ y = kV k ∧ okK kvs k = true ∧ lookD kvs k = some d ∧ ∀ v, (∀ W, DR X.K W v d) → Q v H) := by
  intro value slice pins s σ H x y v u Q I rx ry ⟨k, d, e1, e2, ok, el, q⟩ hs
  subst e1 e2
  obtain rfl : v = Value.ref a := rx
  cases k with
  | inl i =>
    obtain ⟨t, rfl⟩ := ry
    obtain ⟨f, hm, hf⟩ := kd_int h ok I.kIn
    have q1 := hf i
    rw [el] at q1
    cases e : f i with
    | none => rw [e] at q1; exact q1.elim
    | some u1 =>
      rw [e] at q1
      obtain ⟨w, r1, r2⟩ := q1
      exact tail_any hm.typeIs slot_dict_getitem.lookup (wpAny_getItem_of (intKind_is X.prog X.w i t) hm e ⟨w, H, I.tok _, r1, q w r2⟩) hs
  | inr x =>
    obtain ⟨t, rfl⟩ := ry
    obtain ⟨f, hm, hf⟩ := kd_str h ok I.kIn
    have q1 := hf x
    rw [el] at q1
    cases e : f x with
    | none => rw [e] at q1; exact q1.elim
    | some u1 =>
      rw [e] at q1
      obtain ⟨w, r1, r2⟩ := q1
      exact tail_any hm.typeIs slot_dict_getitem.lookup (wpAny_getItem_of (strKind_is X.prog X.w x t) hm e ⟨w, H, I.tok _, r1, q w r2⟩) hs
end
section
variable {X : Cx} {K : PySem.W.Frag} {mg : Str → Option Value} {e b : Expr} {m : M} {x : Str} {p pos : Pos} {kvs : List (Key × D)}
/-- e in a dict of the module -/
def mKIn (neg : Bool) (kvs : List (Key × D)) (m : M) : M := fun ρ n R RX => m ρ n (fun s ρ1 n1 => toD s fun d => ∃ k, keyD d = some k ∧ okK kvs k = true ∧ R (.dat (.bl (neg ^^ (lookD kvs k).isSome))) ρ1 n1) RX
/-- a dict of the module, looked into -/
def mKIdx (kvs : List (Key × D)) (m : M) : M := fun ρ n R RX => m ρ n (fun s ρ1 n1 => toD s fun kd => ∃ k d, keyD kd = some k ∧ okK kvs k = true ∧ lookD kvs k = some d ∧ R (.dat d) ρ1 n1) RX
theorem kin_read {neg : Bool} {a : Addr} {σ : L2.St} {H : Hp} {Q : VK} (h : tOf (G0 K mg) (mKIn neg kvs m) σ H Q) :
    tOp (fun x y H Q => ∃ k, x = kV k ∧ y = .ref a ∧ okK kvs k = true ∧ Q (.bl (neg ^^ (lookD kvs k).isSome)) H) (tOf (G0 K mg) m) (tC (.ref a)) σ H Q := by
  obtain ⟨ρ, n, W, R, RX, r, h, l, x⟩ := h
  refine of_bindD r x h fun d ρ1 n1 v H1 W1 h1 r1 g1 d1 x1 => ?_
  obtain ⟨k, e1, e2, hR⟩ := h1
  exact ⟨k, d1.key e1, rfl, e2, rl_same r1 (l.go g1) hR (.bl _)⟩
theorem o_kin (c : Ctx X (G0 K mg)) (hg : Gl X x) (h : GD K mg X.w x kvs) (he : PE X e (tOf (G0 K mg) m)) (hm : behindInMarks .In (.Name x p) = false := by rfl) (hd : (x == ("__debug__" : Str)) = false := by decide) :
    PE X (.Compare e [.In] [.Name x p] pos) (tOf (G0 K mg) (mKIn false kvs m)) := by
  obtain ⟨a, h1, h2⟩ := h
  have e1 : X.mg x = some (.ref a) := by rw [c.mg]; exact h1
  have h2' : KDi X.K X.w a kvs := by rw [c.K]; exact h2
  exact pe_imp (pe_cmpR (op_kin h2') he (pe_glob hg e1 (v := .ref a) rfl hd) hm) fun σ H Q h => by simpa using kin_read (neg := false) h
theorem o_kni (c : Ctx X (G0 K mg)) (hg : Gl X x) (h : GD K mg X.w x kvs) (he : PE X e (tOf (G0 K mg) m)) (hm : behindInMarks .NotIn (.Name x p) = false := by rfl) (hd : (x == ("__debug__" : Str)) = false := by decide) :
    PE X (.Compare e [.NotIn] [.Name x p] pos) (tOf (G0 K mg) (mKIn true kvs m)) := by
  obtain ⟨a, h1, h2⟩ := h
  have e1 : X.mg x = some (.ref a) := by rw [c.mg]; exact h1
  have h2' : KDi X.K X.w a kvs := by rw [c.K]; exact h2
  exact pe_imp (pe_cmpR (op_kni h2') he (pe_glob hg e1 (v := .ref a) rfl hd) hm) fun σ H Q h => by simpa using kin_read (neg := true) h
theorem o_kidx (c : Ctx X (G0 K mg)) (hg : Gl X x) (h : GD K mg X.w x kvs) (hb : PE X b (tOf (G0 K mg) m)) (hs : PlainIx b) (hd : (x == ("__debug__" : Str)) = false := by decide) :
    PE X (.Subscript (.Name x p) b pos) (tOf (G0 K mg) (mKIdx kvs m)) := by
  obtain ⟨a, h1, h2⟩ := h
  have e1 : X.mg x = some (.ref a) := by rw [c.mg]; exact h1
  have h2' : KDi X.K X.w a kvs := by rw [c.K]; exact h2
  refine pe_imp (pe_ix (op_kix h2') (pe_glob hg e1 (v := .ref a) rfl hd) hb hs) fun σ H Q h => ?_
  obtain ⟨ρ, n, W, R, RX, r, h, l, x⟩ := h
  refine of_bindD r x h fun kd ρ1 n1 v H1 W1 h1 r1 g1 d1 x1 => ?_
  obtain ⟨k, d, e1, e2, e3, hR⟩ := h1
  exact ⟨k, d, rfl, d1.key e1, e2, e3, fun v hv => rl_same r1 (l.go g1) hR (by rw [← c.K]; exact hv _)⟩
end
end PL

set_option Elab.async false
set_option linter.all false
set_option maxRecDepth 100000
set_option maxHeartbeats 4000000
namespace PL
open PySem L2
/-! ### methods of the built-in kinds -/
abbrev GM := D → List D → (S → Prop) → Prop
def MtD (X : Cx) (G : Gx) (id : String) (g : GM) : Prop := MtR X id fun x xs H Q => ∃ d ds W n R, WOk W H n ∧ DR G.K W x d ∧ DRs G.K W xs ds ∧ g d ds R ∧ VPost G.K W H n R Q
def kindD (T : String) : D → Prop
  | .lst _ => T = "list"
  | .str _ => T = "str"
  | _ => False
def mBM (T : String) (g : GM) (ma : M) (m : MA) : M := fun ρ n R RX => ma ρ n (fun s ρ1 n1 => toD s fun d => kindD T d ∧ m ρ1 n1 (fun ds ρ2 n2 => g d ds fun z => R z ρ2 n2) RX) RX
section
variable {X : Cx} {G : Gx} {o e : Expr} {es : List Expr} {ma : M} {m : MA} {name : Str} {apos cpos : Pos} {T id : String} {g : GM}
theorem kind_ty {K : PySem.W.Frag} {W : Wd} {H : Hp} {n : Nat} {v : V} {d : D} (ok : WOk W H n) (h : DR K W v d) (hk : kindD T d) : tyV K T v H := by
  cases h with
  | str x => exact hk
  | lst h r => exact .inl ⟨hk, _, sql_H ok h⟩
  | non => exact hk.elim
  | bl b => exact hk.elim
  | int i => exact hk.elim
  | ty n => exact hk.elim
  | ref a => exact hk.elim
  | pot a _ => exact hk.elim
  | tup _ _ => exact hk.elim
theorem bm_read (c : Ctx X G) {σ : L2.St} {H : Hp} {Q : VK} (h : tOf G (mBM T g ma m) σ H Q) : tBM X.K T (fun x xs H Q => ∃ d ds W n R, WOk W H n ∧ DR G.K W x d ∧ DRs G.K W xs ds ∧ g d ds R ∧ VPost G.K W H n R Q) (tOf G ma) (taOf G m) σ H Q := by
  obtain ⟨ρ, n, W, R, RX, r, h, l, x⟩ := h
  refine of_bindD r x h fun d ρ1 n1 v H1 W1 h1 r1 g1 d1 x1 => ?_
  refine ⟨by rw [c.K]; exact kind_ty r1.ok d1 h1.1, of_args r1 x1 h1.2 fun ds ρ2 n2 vs H2 W2 h2 r2 g2 d2 x2 => ?_⟩
  exact ⟨d, ds, W2, n2, _, r2.ok, d1.mono g2.go.le, d2, h2, vpost_of r2 (l.go (g1.trans g2))⟩
theorem o_bm (c : Ctx X G) (hm : MtD X G id g) (pa : PlainAttrs T) (slot : Slot T name id) (hty : typeOf (.builtin id) = pure (.type "method_descriptor")) (ho : PE X o (tOf G ma)) (ha : PA X (e :: es) (taOf G m))
    (hbase : attributeBase o name X.env (eval o X.env) = eval o X.env := by rfl)
    (hfew : ((backTo cpos (starEach (e :: es) X.env)).all (fun x => !x.1) && (backToKw cpos (keywordEach [] X.env)).all (fun x => x.1.isSome)
      && decide ((e :: es).length + ([] : List Keyword).length + (if ([] : List Keyword).isEmpty then 0 else 1) < 30)) = true := by rfl)
    (hline : (apos.endLine == cpos.line) = true := by rfl) (hs : starEach (e :: es) X.env = (false, eval e X.env) :: starEach es X.env := by rfl) (hplain : (backTo cpos (starEach es X.env)).any (·.1) = false := by rfl) :
    PE X (.Call (.Attribute o name apos) (e :: es) [] cpos) (tOf G (mBM T g ma m)) := pe_imp (pe_bm pa slot hty hm ho ha hbase hfew hline hs hplain) fun _ _ _ h => bm_read c h
/-! list.index, of flat things -/
def gLIndex : GM := fun d ds R => match d, ds with
  | .lst xs, [y] => flatD y = true ∧ xs.all flatD = true ∧ ∃ j z, xs[j]? = some z ∧ eqV (vOf z) (vOf y) = true ∧ (∀ m z', m < j → xs[m]? = some z' → eqV (vOf z') (vOf y) = false) ∧ R (.dat (.int (j : Nat)))
  | _, _ => False
theorem d_lindex (c : Ctx X G) : MtD X G "list.index" gLIndex := by
  intro pins s σ H x xs v us Q I rx rxs ⟨d, ds, W, n, R, ok, hd, hds, hg, hp⟩
  unfold gLIndex at hg
  split at hg
  · rename_i ys y
    obtain ⟨f1, f2, j, z, hz, hzy, hno, hR⟩ := hg
    obtain ⟨v1, rfl, hy⟩ := drs1 hds
    cases hd with
    | lst h r =>
      rename_i a vs
      have q := sql_H ok h
      rw [← c.K] at q
      obtain ⟨e1, g1⟩ := hy.flat f1
      obtain ⟨e2, g2⟩ := r.flat f2
      subst e1
      have look : ∀ i : Nat, vs[i]? = (ys[i]?).map vOf := fun i => by rw [e2, List.getElem?_map]
      refine mt_index pins s σ H _ _ v us Q I rx rxs ⟨a, vs, _, j, vOf z, rfl, rfl, q, g1, g2, by rw [look, hz]; rfl, hzy, fun m z' hm hz' => ?_, hp.same ok hR (.int _)⟩
      rw [look] at hz'
      cases e : ys[m]? with
      | none => rw [e] at hz'; cases hz'
      | some z0 =>
        rw [e] at hz'
        cases hz'
        exact hno m z0 hm e
  · exact hg.elim
end
end PL

set_option Elab.async false
set_option linter.all false
set_option maxRecDepth 100000
set_option maxHeartbeats 4000000
namespace PL
open PySem L2
/-! ### equations for dicts of the module, for methods -/
def kyK (d : D) (f : Key → Prop) : Prop := ∃ k, keyD d = some k ∧ f k
theorem x_kyi (i : Int) (f : Key → Prop) : kyK (.int i) f = f (.inl i) := by simp [kyK, keyD]
theorem x_kys (x : Str) (f : Key → Prop) : kyK (.str x) f = f (.inr x) := by simp [kyK, keyD]
def opK (o : Option D) (f : D → Prop) : Prop := ∃ d, o = some d ∧ f d
theorem x_ops (d : D) (f : D → Prop) : opK (some d) f = f d := by simp [opK]
theorem opK_of {o : Option D} {d : D} (h : o = some d) (f : D → Prop) : opK o f = f d := by rw [h, x_ops]
theorem x_kin (neg : Bool) (kvs : List (Key × D)) (m : M) (ρ : List S) (n : Nat) (R : RK) (RX : XR) : mKIn neg kvs m ρ n R RX = m ρ n (fun s ρ1 n1 => toD s fun d => kyK d fun k => okK kvs k = true ∧ R (.dat (.bl (neg ^^ (lookD kvs k).isSome))) ρ1 n1) RX := rfl
theorem x_kidx (kvs : List (Key × D)) (m : M) (ρ : List S) (n : Nat) (R : RK) (RX : XR) : mKIdx kvs m ρ n R RX = m ρ n (fun s ρ1 n1 => toD s fun kd => kyK kd fun k => okK kvs k = true ∧ opK (lookD kvs k) fun d => R (.dat d) ρ1 n1) RX := by
  unfold mKIdx kyK opK
  refine congrFun (congrArg _ (funext fun s => funext fun ρ1 => funext fun n1 => congrArg _ (funext fun kd => propext ⟨fun ⟨k, d, a, b, c, e⟩ => ⟨k, a, b, d, c, e⟩, fun ⟨k, a, b, d, c, e⟩ => ⟨k, d, a, b, c, e⟩⟩))) _
theorem x_bm (T : String) (g : GM) (ma : M) (m : MA) (ρ : List S) (n : Nat) (R : RK) (RX : XR) : mBM T g ma m ρ n R RX = ma ρ n (fun s ρ1 n1 => toD s fun d => kindD T d ∧ m ρ1 n1 (fun ds ρ2 n2 => g d ds fun z => R z ρ2 n2) RX) RX := rfl
theorem x_kindl (ds : List D) : kindD "list" (.lst ds) = True := by simp [kindD]
theorem x_kinds (x : Str) : kindD "str" (.str x) = True := by simp [kindD]
theorem x_eqb (a b : Bool) (R : S → Prop) : gEq false (.bl a) (.bl b) R = R (.dat (.bl (a == b))) := by
  refine propext ⟨fun h => ?_, fun h => gEq_of (k := 0) (m := 0) (Eqd.bl a) (Eqd.bl b) (by decide) (by decide) (by cases a <;> cases b <;> exact h)⟩
  obtain ⟨_, _, _, _, h⟩ := h
  cases a <;> cases b <;> exact h
theorem x_neb (a b : Bool) (R : S → Prop) : gEq true (.bl a) (.bl b) R = R (.dat (.bl (!(a == b)))) := by
  refine propext ⟨fun h => ?_, fun h => gEq_of (k := 0) (m := 0) (Eqd.bl a) (Eqd.bl b) (by decide) (by decide) (by cases a <;> cases b <;> exact h)⟩
  obtain ⟨_, _, _, _, h⟩ := h
  cases a <;> cases b <;> exact h
end PL

set_option Elab.async false
set_option linter.all false
set_option maxRecDepth 100000
set_option maxHeartbeats 4000000
namespace PL
open PySem L2
/-! ### helpers -/
theorem eqvAll_ints : ∀ l l' : List Int, PyData.eqvAll (D.pyAll (l.map D.int)) (D.pyAll (l'.map D.int)) = decide (l = l')
  | [], [] => rfl
  | [], _ :: _ => rfl
  | _ :: _, [] => rfl
  | a :: l, b :: l' => by
    show ((a == b) && PyData.eqvAll (D.pyAll (l.map D.int)) (D.pyAll (l'.map D.int))) = _
    rw [eqvAll_ints l l']
    by_cases e : a = b
    · subst e; simp
    · simp [e]
theorem eqv_ints (l l' : List Int) : PyData.eqv (tupI l).py (tupI l').py = decide (l = l') := eqvAll_ints l l'
theorem gEq_ints {neg : Bool} {l l' : List Int} {R : S → Prop} (h : R (.dat (.bl (neg ^^ decide (l = l'))))) : gEq neg (tupI l) (tupI l') R :=
  gEq_of (Eqd.ints (k := 0) l) (Eqd.ints (k := 0) l') (by decide) (by decide) (by rw [eqv_ints]; exact h)
section
variable {gt gt1 : D → List S → (List S → Prop) → Prop} {u : MS} {DD : ED} {mt mt1 me : M} {mi1 : MI} {ρ : List S} {Kx : List D → Nat → Prop} {vs1 : List Nat} {α : Type}
/-- a comprehension over things of a kind, each kept -/
theorem lcL_of (g f : α → D) {xs : List α} (h1 : ∀ x ∈ xs, ∀ acc n (K : List D → Nat → Prop), acc.length < 1000000 → K (acc ++ [f x]) n → lcTurn gt mt me ρ (g x) acc n K) (n : Nat) (hl : xs.length ≤ 1000000) (h : Kx (xs.map f) n) : lcL gt mt me ρ Kx (xs.map g) [] n := by
  refine lcL_ind (fun ds acc n' => ∃ q r : List α, n' = n ∧ xs = r ++ q ∧ ds = q.map g ∧ acc = r.map f) ?_ ?_ _ _ _ ⟨xs, [], rfl, rfl, rfl, rfl⟩
  · rintro acc n' ⟨q, r, rfl, e, e2, rfl⟩
    cases q with
    | nil => rw [List.append_nil] at e; subst e; exact h
    | cons a q => cases e2
  · rintro d ds acc n' K hK ⟨q, r, rfl, e, e2, rfl⟩
    cases q with
    | nil => cases e2
    | cons a q =>
      cases e2
      subst e
      refine h1 a (by simp) _ _ _ (by simp at hl ⊢; omega) (hK _ _ ⟨q, r ++ [a], rfl, by simp, rfl, by simp⟩)
/-- .. some kept -/
theorem lcL_ofF (g : α → D) (f : α → List D) {xs : List α} (hf : ∀ x ∈ xs, (f x).length ≤ 1) (h1 : ∀ x ∈ xs, ∀ acc n (K : List D → Nat → Prop), acc.length < 1000000 → K (acc ++ f x) n → lcTurn gt mt me ρ (g x) acc n K) (n : Nat) (hl : xs.length ≤ 1000000) (h : Kx (xs.flatMap f) n) : lcL gt mt me ρ Kx (xs.map g) [] n := by
  refine lcL_ind (fun ds acc n' => ∃ q r : List α, n' = n ∧ xs = r ++ q ∧ ds = q.map g ∧ acc = r.flatMap f ∧ acc.length ≤ r.length) ?_ ?_ _ _ _ ⟨xs, [], rfl, rfl, rfl, rfl, Nat.le_refl _⟩
  · rintro acc n' ⟨q, r, rfl, e, e2, rfl, _⟩
    cases q with
    | nil => rw [List.append_nil] at e; subst e; exact h
    | cons a q => cases e2
  · rintro d ds acc n' K hK ⟨q, r, rfl, e, e2, rfl, el⟩
    cases q with
    | nil => cases e2
    | cons a q =>
      cases e2
      subst e
      have ha := hf a (by simp)
      refine h1 a (by simp) _ _ _ (by simp at hl el ⊢; omega) (hK _ _ ⟨q, r ++ [a], rfl, by simp, rfl, by simp, by simp at el ⊢; omega⟩)
end
/-- simp does not look into a box -/
structure Tag {α : Type} (k : α) : Type where
  mk :: (n : Nat)
def bx {α : Type} (k : α) (_ : Tag k) : α := k
abbrev KL := List D → Nat → Prop
theorem x_bx (k : KL) (t : Tag k) (acc : List D) (n : Nat) : bx k t acc n = k acc n := rfl
theorem x_lcz (mi : MI) (gt : D → List S → (List S → Prop) → Prop) (mt me : M) (vs : List Nat) (ρ : List S) (n : Nat) (R : RK) (RX : XR) : mLc mi gt mt me vs ρ n R RX = mi ρ n (fun ds ρ1 n1 => wpK ρ1 vs fun ρ' => lcL gt mt me ρ' (bx (α := KL) (fun acc n2 => R (.own acc) ρ1 n2) ⟨0⟩) ds [] n1) RX := x_lc ..
theorem x_lc2z (mi : MI) (gt : D → List S → (List S → Prop) → Prop) (mt : M) (mi1 : MI) (gt1 : D → List S → (List S → Prop) → Prop) (mt1 me : M) (vs vs1 : List Nat) (ρ : List S) (n : Nat) (R : RK) (RX : XR) :
    mLc2 mi gt mt mi1 gt1 mt1 me vs vs1 ρ n R RX = mi ρ n (fun ds ρ1 n1 => wpK ρ1 vs fun ρ' => lc2L gt mt mi1 gt1 mt1 me ρ' vs1 (bx (α := KL) (fun acc n2 => R (.own acc) ρ1 n2) ⟨0⟩) ds [] n1) RX := x_lc2 ..
section
variable {X : Cx} {K : PySem.W.Frag} {mg : Str → Option Value} {e b : Expr} {m : M} {x : Str} {p pos : Pos} {kvs : List (Key × D)}
theorem t_kin (c : Ctx X (G0 K mg)) (hg : Gl X x) (h : GD K mg X.w x kvs) (he : PE X e (tOf (G0 K mg) m)) (hm : behindInMarks .In (.Name x p) = false := by rfl) (hd : (x == ("__debug__" : Str)) = false := by decide) :
    PT X (.Compare e [.In] [.Name x p] pos) (tTest (tOf (G0 K mg) (mKIn false kvs m))) := by
  obtain ⟨a, h1, h2⟩ := h
  have e1 : X.mg x = some (.ref a) := by rw [c.mg]; exact h1
  have h2' : KDi X.K X.w a kvs := by rw [c.K]; exact h2
  exact pt_imp (pt_cmpR (op_kin h2') he (pe_glob hg e1 (v := .ref a) rfl hd) hm) fun σ H Q h => by have q := kin_read (neg := false) (a := a) h; simp only [Bool.false_xor] at q; exact q
theorem t_kni (c : Ctx X (G0 K mg)) (hg : Gl X x) (h : GD K mg X.w x kvs) (he : PE X e (tOf (G0 K mg) m)) (hm : behindInMarks .NotIn (.Name x p) = false := by rfl) (hd : (x == ("__debug__" : Str)) = false := by decide) :
    PT X (.Compare e [.NotIn] [.Name x p] pos) (tTest (tOf (G0 K mg) (mKIn true kvs m))) := by
  obtain ⟨a, h1, h2⟩ := h
  have e1 : X.mg x = some (.ref a) := by rw [c.mg]; exact h1
  have h2' : KDi X.K X.w a kvs := by rw [c.K]; exact h2
  exact pt_imp (pt_cmpR (op_kni h2') he (pe_glob hg e1 (v := .ref a) rfl hd) hm) fun σ H Q h => by have q := kin_read (neg := true) (a := a) h; simp only [Bool.true_xor] at q; exact q
end
theorem rngD_eq (n : Int) : rngD 0 n = (List.range n.toNat).map fun i => D.int (i : Nat) := by
  unfold rngD; rw [Int.sub_zero]; congr 1; funext i; rw [Int.zero_add]
theorem gcd_bd {a b : Int} (hb : 1 ≤ b) : 1 ≤ (Int.gcd a b : Int) ∧ (Int.gcd a b : Int) ≤ b := by
  constructor
  · have := Int.gcd_pos_of_ne_zero_right a (show b ≠ 0 by omega)
    omega
  · have := Int.gcd_le_right (a := a) (show 0 < b by omega)
    omega
theorem red_gcd {a b : Int} (hb : 1 ≤ b) : Int.gcd (a / Int.gcd a b) (b / Int.gcd a b) = 1 :=
  Int.gcd_ediv_gcd_ediv_gcd (i := a) (j := b) (Int.gcd_pos_of_ne_zero_right a (show b ≠ 0 by omega))
theorem log2_bd {n k : Nat} (h : n < 2 ^ k) (hk : 0 < k) : n.log2 < k := by
  by_cases e : n = 0
  · subst e; rw [show Nat.log2 0 = 0 by decide]; exact hk
  · exact (Nat.log2_lt e).mpr h
theorem log2_200 {b : Int} (h : 1 ≤ b) (h2 : b < 2 ^ 200) : 0 < b ∧ b.natAbs.log2 < 9000 := by
  have : b.natAbs.log2 < 200 := (Nat.log2_lt (by omega)).mpr (by omega)
  omega
/-- showing the same thing twice -/
theorem gRepr_same {k m : Nat} {d : D} {R : S → Prop} (h : Rp k m d) (a : k ≤ 60) (b : m ≤ 1000000) (q : R (.dat (.str d.py.shown))) : gRepr [d] R := gRepr_of h a b q
end PL

set_option Elab.async false
set_option linter.all false
set_option maxRecDepth 100000
set_option maxHeartbeats 200000
namespace K02
open PySem L2 PL
abbrev KD_MOST_MOTION : List (Key × D) := [(.inl 1, .int 1), (.inl 2, .int 7)]
abbrev K_QUARTERS : D := .int 4
def isI : D → Bool
  | .int _ => true
  | _ => false
def S_is_integer : SpD := fun ds n R _ => match ds with
  | [d] => (tyD d).isSome = true ∧ R (.dat (.bl (isI d))) n
  | _ => False

def m_is_integer : MS := sRet (mAnd (mCB gIsi (aCons (mVar 0) (aCons (mC (.ty "int")) (aNil)))) (mNot (mCB gIsi (aCons (mVar 0) (aCons (mC (.ty "bool")) (aNil))))))
theorem isI_some {d : D} (h : isI d = true) : ∃ i, d = .int i := by
  cases d <;> simp [isI] at h
  exact ⟨_, rfl⟩
theorem sat_is_integer : ∀ ds n R RX, S_is_integer ds n R RX → fnM 1 1 m_is_integer ds n R fun _ _ _ => False := by
  intro ds n R RX h
  unfold S_is_integer at h
  split at h
  · rename_i d
    refine ⟨rfl, ?_⟩
    cases d <;> simp [tyD, isI] at h <;> (simp only [startD, List.map_cons, List.map_nil, List.length_cons, List.length_nil, Nat.reduceAdd, Nat.reduceSub, List.replicate_succ, List.replicate_zero, List.cons_append, List.nil_append]; simp -implicitDefEqProofs [↓m_is_integer, ↓lkK_0, ↓lkK_s, ↓stK_0, ↓stK_s, ↓x_var, ↓x_asg, ↓x_gtN, ↓stSK_c, ↓stSK_n, ↓x_par, ↓wpK_n, ↓wpK_c, ↓x_lc, ↓x_lc2, ↓x_lc2T, ↓x_app, ↓x_ext, ↓x_setI, ↓x_idxV, ↓x_lenV, ↓x_dget, ↓x_din, ↓x_dput, ↓atK_0, ↓atK_1, ↓atK_2, ↓atK_3, ↓atK_m1, ↓atK_m2, ↓atK_m3, ↓atK_m4, ↓x_idxl, ↓x_idxt, ↓x_idxs, ↓x_ret, ↓x_retN, ↓x_seq, ↓x_sif, ↓x_snil, ↓x_exp, ↓x_nev, ↓x_brk, ↓x_cnt, ↓x_sfor, ↓x_moNil, ↓x_moCons, ↓x_asgT, ↓x_gtT, ↓x_gtCons, ↓x_gtNil, ↓x_retV, ↓x_mov, ↓x_c, ↓x_bin, ↓x_un, ↓x_and, ↓x_or, ↓x_not, ↓x_ifE, ↓x_chain, ↓x_cb, ↓x_anil, ↓x_cons, ↓x_star, ↓x_tup, ↓x_lst, ↓x_dic0, ↓x_call, ↓x_callK, ↓x_yes, ↓x_toD, ↓x_toDo, ↓x_toB, ↓x_wT, ↓x_wF, ↓x_wD, ↓x_wN, ↓x_sub, ↓x_mul, ↓x_fdv, ↓x_mod, ↓x_pow, ↓x_lt, ↓x_le, ↓x_gt, ↓x_ge, ↓x_addi, ↓x_adds, ↓x_addt, ↓x_addl, ↓x_eqi, ↓x_nei, ↓x_eqs, ↓x_nes, ↓x_int, ↓x_nit, ↓x_inl, ↓x_nil, ↓x_isN, ↓x_notN, ↓x_neg, ↓x_lens, ↓x_lent, ↓x_lenl, ↓x_abs, ↓x_inti, ↓x_intb, ↓x_max, ↓x_min, ↓x_tofl, ↓x_toft, ↓x_lofl, ↓x_loft, ↓x_iseq, ↓x_sqt, ↓x_sql, ↓x_turn, ↓x_lstR1, ↓x_rg1, ↓x_rg2, ↓x_rgK, ↓x_rgK1, ↓x_rgK2, ↓x_isi_non_int, ↓x_isi_non_bool, ↓x_isi_non_str, ↓x_isi_non_tuple, ↓x_isi_non_list, ↓x_isi_bl_int, ↓x_isi_bl_bool, ↓x_isi_bl_str, ↓x_isi_bl_tuple, ↓x_isi_bl_list, ↓x_isi_int_int, ↓x_isi_int_bool, ↓x_isi_int_str, ↓x_isi_int_tuple, ↓x_isi_int_list, ↓x_isi_str_int, ↓x_isi_str_bool, ↓x_isi_str_str, ↓x_isi_str_tuple, ↓x_isi_str_list, ↓x_isi_tup_int, ↓x_isi_tup_bool, ↓x_isi_tup_str, ↓x_isi_tup_tuple, ↓x_isi_tup_list, ↓x_isi_lst_int, ↓x_isi_lst_bool, ↓x_isi_lst_str, ↓x_isi_lst_tuple, ↓x_isi_lst_list, ↓x_all, ↓x_any, ↓x_sum, ↓x_bln, ↓x_blc, ↓x_itn, ↓x_itc, x_wG, tyD, ↓x_pot0, ↓x_pot1, ↓x_pot2, ↓x_pset0, ↓x_pset2, ↓x_vK, ↓x_cutnn, ↓x_cutns, ↓x_cutsn, ↓x_cutl, ↓x_cutt, ↓x_kyi, ↓x_kys, ↓x_ops, ↓x_kin, ↓x_kidx, ↓x_bm, ↓x_kindl, ↓x_kinds, ↓x_eqb, ↓x_neb, KD_MOST_MOTION, K_QUARTERS]) <;> exact h
  · exact h.elim

def S_divisor : SpD := fun ds n R _ => match ds with
  | [.int a, .int b] => 0 ≤ a ∧ 0 ≤ b ∧ R (.dat (.int (Int.gcd a b))) n
  | _ => False

def m_divisor : MS := sSeq (sWhl (mBin gGt (mVar 1) (mC (.int 0))) (sParN [0, 1] (moCons (mVar 1) (moCons (mBin gMod (mVar 0) (mVar 1)) (moNil))))) (sRet (mVar 0))
theorem gcd_mod {a b : Int} (ha : 0 ≤ a) (hb : 0 < b) : Int.gcd b (a % b) = Int.gcd a b := by
  obtain ⟨x, rfl⟩ := Int.eq_ofNat_of_zero_le ha
  obtain ⟨y, rfl⟩ := Int.eq_ofNat_of_zero_le (Int.le_of_lt hb)
  rw [← Int.natCast_emod]
  show Nat.gcd y (x % y) = Nat.gcd x y
  rw [Nat.gcd_comm x y, Nat.gcd_rec y x, Nat.gcd_comm]
theorem sat_divisor : ∀ ds n R RX, S_divisor ds n R RX → fnM 2 2 m_divisor ds n R fun _ _ _ => False := by
  intro ds n R RX h
  unfold S_divisor at h
  split at h
  · rename_i a b
    obtain ⟨ha, hb, hR⟩ := h
    refine ⟨rfl, ?_⟩
    refine ⟨fun k ρ n' => ∃ x y : Int, ρ = [.dat (.int x), .dat (.int y)] ∧ 0 ≤ x ∧ 0 ≤ y ∧ k = y.toNat ∧ n' = n ∧ Int.gcd x y = Int.gcd a b, ⟨b.toNat, a, b, rfl, ha, hb, rfl, rfl, rfl⟩, ?_⟩
    rintro k ρ n' ⟨x, y, rfl, hx, hy, rfl, rfl, hg⟩
    simp -implicitDefEqProofs [↓lkK_0, ↓lkK_s, ↓stK_0, ↓stK_s, ↓x_var, ↓x_asg, ↓x_gtN, ↓stSK_c, ↓stSK_n, ↓x_par, ↓wpK_n, ↓wpK_c, ↓x_lc, ↓x_lc2, ↓x_lc2T, ↓x_app, ↓x_ext, ↓x_setI, ↓x_idxV, ↓x_lenV, ↓x_dget, ↓x_din, ↓x_dput, ↓atK_0, ↓atK_1, ↓atK_2, ↓atK_3, ↓atK_m1, ↓atK_m2, ↓atK_m3, ↓atK_m4, ↓x_idxl, ↓x_idxt, ↓x_idxs, ↓x_ret, ↓x_retN, ↓x_seq, ↓x_sif, ↓x_snil, ↓x_exp, ↓x_nev, ↓x_brk, ↓x_cnt, ↓x_sfor, ↓x_moNil, ↓x_moCons, ↓x_asgT, ↓x_gtT, ↓x_gtCons, ↓x_gtNil, ↓x_retV, ↓x_mov, ↓x_c, ↓x_bin, ↓x_un, ↓x_and, ↓x_or, ↓x_not, ↓x_ifE, ↓x_chain, ↓x_cb, ↓x_anil, ↓x_cons, ↓x_star, ↓x_tup, ↓x_lst, ↓x_dic0, ↓x_call, ↓x_callK, ↓x_yes, ↓x_toD, ↓x_toDo, ↓x_toB, ↓x_wT, ↓x_wF, ↓x_wD, ↓x_wN, ↓x_sub, ↓x_mul, ↓x_fdv, ↓x_mod, ↓x_pow, ↓x_lt, ↓x_le, ↓x_gt, ↓x_ge, ↓x_addi, ↓x_adds, ↓x_addt, ↓x_addl, ↓x_eqi, ↓x_nei, ↓x_eqs, ↓x_nes, ↓x_int, ↓x_nit, ↓x_inl, ↓x_nil, ↓x_isN, ↓x_notN, ↓x_neg, ↓x_lens, ↓x_lent, ↓x_lenl, ↓x_abs, ↓x_inti, ↓x_intb, ↓x_max, ↓x_min, ↓x_tofl, ↓x_toft, ↓x_lofl, ↓x_loft, ↓x_iseq, ↓x_sqt, ↓x_sql, ↓x_turn, ↓x_lstR1, ↓x_rg1, ↓x_rg2, ↓x_rgK, ↓x_rgK1, ↓x_rgK2, ↓x_isi_non_int, ↓x_isi_non_bool, ↓x_isi_non_str, ↓x_isi_non_tuple, ↓x_isi_non_list, ↓x_isi_bl_int, ↓x_isi_bl_bool, ↓x_isi_bl_str, ↓x_isi_bl_tuple, ↓x_isi_bl_list, ↓x_isi_int_int, ↓x_isi_int_bool, ↓x_isi_int_str, ↓x_isi_int_tuple, ↓x_isi_int_list, ↓x_isi_str_int, ↓x_isi_str_bool, ↓x_isi_str_str, ↓x_isi_str_tuple, ↓x_isi_str_list, ↓x_isi_tup_int, ↓x_isi_tup_bool, ↓x_isi_tup_str, ↓x_isi_tup_tuple, ↓x_isi_tup_list, ↓x_isi_lst_int, ↓x_isi_lst_bool, ↓x_isi_lst_str, ↓x_isi_lst_tuple, ↓x_isi_lst_list, ↓x_all, ↓x_any, ↓x_sum, ↓x_bln, ↓x_blc, ↓x_itn, ↓x_itc, x_wG, tyD, ↓x_pot0, ↓x_pot1, ↓x_pot2, ↓x_pset0, ↓x_pset2, ↓x_vK, ↓x_cutnn, ↓x_cutns, ↓x_cutsn, ↓x_cutl, ↓x_cutt, ↓x_kyi, ↓x_kys, ↓x_ops, ↓x_kin, ↓x_kidx, ↓x_bm, ↓x_kindl, ↓x_kinds, ↓x_eqb, ↓x_neb, KD_MOST_MOTION, K_QUARTERS]
    refine ⟨fun h0 => ⟨h0, (x % y).toNat, ?_, y, x % y, ⟨rfl, rfl⟩, hy, Int.emod_nonneg _ (by omega), rfl, ?_⟩, fun h0 => ?_⟩
    · have := Int.emod_lt_of_pos x h0
      have := Int.emod_nonneg x (show y ≠ 0 by omega)
      omega
    · rw [gcd_mod hx h0, hg]
    · have e : y = 0 := by omega
      subst e
      rw [Int.gcd_zero_right] at hg
      have e : x = (Int.gcd a b : Int) := by rw [← hg]; omega
      rw [e]; exact hR
  · exact h.elim

def typD (d : D) : Bool := (tyD d).isSome
def isFr : D → Bool
  | .tup [.int a, .int b] => decide (1 ≤ b) && decide (Int.gcd a b = 1)
  | _ => false
def S_is_fraction : SpD := fun ds n R _ => match ds with
  | [d] => typD d = true ∧ (∀ es, d = .tup es → ∀ e ∈ es, typD e = true) ∧ R (.dat (.bl (isFr d))) n
  | _ => False

def m_is_fraction : MS := sSeq (sIf (mOr (mNot (mCB gIsi (aCons (mVar 0) (aCons (mC (.ty "tuple")) (aNil))))) (mOr (mBin (gEq true) (mCB gLen (aCons (mVar 0) (aNil))) (mC (.int 2))) (mNot (mCB gAll (aCons (mLc (iSeq (mVar 0)) (gtN 1) (mYes) (mCall S_is_integer (aCons (mVar 1) (aNil))) [1]) (aNil)))))) (sRet (mC (.bl false))) (sNil)) (sRet (mAnd (mBin gGe (mBin gIdx (mVar 0) (mC (.int 1))) (mC (.int 1))) (mBin (gEq false) (mCall S_divisor (aCons (mCB gAbs (aCons (mBin gIdx (mVar 0) (mC (.int 0))) (aNil))) (aCons (mBin gIdx (mVar 0) (mC (.int 1))) (aNil)))) (mC (.int 1)))))
theorem isFr_no1 {x y : D} (h : (isI x && isI y) = false) : isFr (.tup [x, y]) = false := by
  cases x <;> cases y <;> simp [isI] at h <;> rfl
theorem isFr_no2 {es : List D} (h : es.length ≠ 2) : isFr (.tup es) = false := by
  unfold isFr
  split
  · rename_i e; cases e; simp at h
  · rfl
theorem isFr_eq (a b : Int) : isFr (.tup [.int a, .int b]) = (decide (1 ≤ b) && decide (Int.gcd a b = 1)) := rfl
theorem gcd_abs (a b : Int) : (((a.natAbs : Int).gcd b : Nat) : Int) = 1 ↔ a.gcd b = 1 := by
  show (((a.natAbs.gcd b.natAbs : Nat) : Int) = 1) ↔ a.natAbs.gcd b.natAbs = 1
  omega
theorem sat_is_fraction : ∀ ds n R RX, S_is_fraction ds n R RX → fnM 1 2 m_is_fraction ds n R fun _ _ _ => False := by
  intro ds n R RX h
  unfold S_is_fraction at h
  split at h
  · rename_i d
    obtain ⟨h1, h2, hR⟩ := h
    refine ⟨rfl, ?_⟩
    cases d with
    | tup es =>
      have h2 := h2 es rfl
      by_cases hl : es.length = 2
      · obtain ⟨x, y, rfl⟩ : ∃ x y, es = [x, y] := by
          match es, hl with
          | [x, y], _ => exact ⟨x, y, rfl⟩
        have hx := h2 x (by simp)
        have hy := h2 y (by simp)
        cases q : isI x && isI y with
        | false =>
          rw [isFr_no1 q] at hR
          simp only [startD, List.map_cons, List.map_nil, List.length_cons, List.length_nil, Nat.reduceAdd, Nat.reduceSub, List.replicate_succ, List.replicate_zero, List.cons_append, List.nil_append]; simp -implicitDefEqProofs [↓m_is_fraction, ↓S_is_integer, ↓S_divisor, ↓x_lcc, ↓x_lcn, q, ↓lkK_0, ↓lkK_s, ↓stK_0, ↓stK_s, ↓x_var, ↓x_asg, ↓x_gtN, ↓stSK_c, ↓stSK_n, ↓x_par, ↓wpK_n, ↓wpK_c, ↓x_lc, ↓x_lc2, ↓x_lc2T, ↓x_app, ↓x_ext, ↓x_setI, ↓x_idxV, ↓x_lenV, ↓x_dget, ↓x_din, ↓x_dput, ↓atK_0, ↓atK_1, ↓atK_2, ↓atK_3, ↓atK_m1, ↓atK_m2, ↓atK_m3, ↓atK_m4, ↓x_idxl, ↓x_idxt, ↓x_idxs, ↓x_ret, ↓x_retN, ↓x_seq, ↓x_sif, ↓x_snil, ↓x_exp, ↓x_nev, ↓x_brk, ↓x_cnt, ↓x_sfor, ↓x_moNil, ↓x_moCons, ↓x_asgT, ↓x_gtT, ↓x_gtCons, ↓x_gtNil, ↓x_retV, ↓x_mov, ↓x_c, ↓x_bin, ↓x_un, ↓x_and, ↓x_or, ↓x_not, ↓x_ifE, ↓x_chain, ↓x_cb, ↓x_anil, ↓x_cons, ↓x_star, ↓x_tup, ↓x_lst, ↓x_dic0, ↓x_call, ↓x_callK, ↓x_yes, ↓x_toD, ↓x_toDo, ↓x_toB, ↓x_wT, ↓x_wF, ↓x_wD, ↓x_wN, ↓x_sub, ↓x_mul, ↓x_fdv, ↓x_mod, ↓x_pow, ↓x_lt, ↓x_le, ↓x_gt, ↓x_ge, ↓x_addi, ↓x_adds, ↓x_addt, ↓x_addl, ↓x_eqi, ↓x_nei, ↓x_eqs, ↓x_nes, ↓x_int, ↓x_nit, ↓x_inl, ↓x_nil, ↓x_isN, ↓x_notN, ↓x_neg, ↓x_lens, ↓x_lent, ↓x_lenl, ↓x_abs, ↓x_inti, ↓x_intb, ↓x_max, ↓x_min, ↓x_tofl, ↓x_toft, ↓x_lofl, ↓x_loft, ↓x_iseq, ↓x_sqt, ↓x_sql, ↓x_turn, ↓x_lstR1, ↓x_rg1, ↓x_rg2, ↓x_rgK, ↓x_rgK1, ↓x_rgK2, ↓x_isi_non_int, ↓x_isi_non_bool, ↓x_isi_non_str, ↓x_isi_non_tuple, ↓x_isi_non_list, ↓x_isi_bl_int, ↓x_isi_bl_bool, ↓x_isi_bl_str, ↓x_isi_bl_tuple, ↓x_isi_bl_list, ↓x_isi_int_int, ↓x_isi_int_bool, ↓x_isi_int_str, ↓x_isi_int_tuple, ↓x_isi_int_list, ↓x_isi_str_int, ↓x_isi_str_bool, ↓x_isi_str_str, ↓x_isi_str_tuple, ↓x_isi_str_list, ↓x_isi_tup_int, ↓x_isi_tup_bool, ↓x_isi_tup_str, ↓x_isi_tup_tuple, ↓x_isi_tup_list, ↓x_isi_lst_int, ↓x_isi_lst_bool, ↓x_isi_lst_str, ↓x_isi_lst_tuple, ↓x_isi_lst_list, ↓x_all, ↓x_any, ↓x_sum, ↓x_bln, ↓x_blc, ↓x_itn, ↓x_itc, x_wG, tyD, ↓x_pot0, ↓x_pot1, ↓x_pot2, ↓x_pset0, ↓x_pset2, ↓x_vK, ↓x_cutnn, ↓x_cutns, ↓x_cutsn, ↓x_cutl, ↓x_cutt, ↓x_kyi, ↓x_kys, ↓x_ops, ↓x_kin, ↓x_kidx, ↓x_bm, ↓x_kindl, ↓x_kinds, ↓x_eqb, ↓x_neb, KD_MOST_MOTION, K_QUARTERS]
          exact ⟨hx, hy, fun a b => absurd q (by simp [a, b]), fun _ => hR⟩
        | true =>
          obtain ⟨a, rfl⟩ := isI_some (Bool.and_eq_true_iff.mp q).1
          obtain ⟨b, rfl⟩ := isI_some (Bool.and_eq_true_iff.mp q).2
          rw [isFr_eq] at hR
          simp only [startD, List.map_cons, List.map_nil, List.length_cons, List.length_nil, Nat.reduceAdd, Nat.reduceSub, List.replicate_succ, List.replicate_zero, List.cons_append, List.nil_append]; simp -implicitDefEqProofs [↓m_is_fraction, ↓S_is_integer, ↓S_divisor, ↓x_lcc, ↓x_lcn, isI, gcd_abs, ↓lkK_0, ↓lkK_s, ↓stK_0, ↓stK_s, ↓x_var, ↓x_asg, ↓x_gtN, ↓stSK_c, ↓stSK_n, ↓x_par, ↓wpK_n, ↓wpK_c, ↓x_lc, ↓x_lc2, ↓x_lc2T, ↓x_app, ↓x_ext, ↓x_setI, ↓x_idxV, ↓x_lenV, ↓x_dget, ↓x_din, ↓x_dput, ↓atK_0, ↓atK_1, ↓atK_2, ↓atK_3, ↓atK_m1, ↓atK_m2, ↓atK_m3, ↓atK_m4, ↓x_idxl, ↓x_idxt, ↓x_idxs, ↓x_ret, ↓x_retN, ↓x_seq, ↓x_sif, ↓x_snil, ↓x_exp, ↓x_nev, ↓x_brk, ↓x_cnt, ↓x_sfor, ↓x_moNil, ↓x_moCons, ↓x_asgT, ↓x_gtT, ↓x_gtCons, ↓x_gtNil, ↓x_retV, ↓x_mov, ↓x_c, ↓x_bin, ↓x_un, ↓x_and, ↓x_or, ↓x_not, ↓x_ifE, ↓x_chain, ↓x_cb, ↓x_anil, ↓x_cons, ↓x_star, ↓x_tup, ↓x_lst, ↓x_dic0, ↓x_call, ↓x_callK, ↓x_yes, ↓x_toD, ↓x_toDo, ↓x_toB, ↓x_wT, ↓x_wF, ↓x_wD, ↓x_wN, ↓x_sub, ↓x_mul, ↓x_fdv, ↓x_mod, ↓x_pow, ↓x_lt, ↓x_le, ↓x_gt, ↓x_ge, ↓x_addi, ↓x_adds, ↓x_addt, ↓x_addl, ↓x_eqi, ↓x_nei, ↓x_eqs, ↓x_nes, ↓x_int, ↓x_nit, ↓x_inl, ↓x_nil, ↓x_isN, ↓x_notN, ↓x_neg, ↓x_lens, ↓x_lent, ↓x_lenl, ↓x_abs, ↓x_inti, ↓x_intb, ↓x_max, ↓x_min, ↓x_tofl, ↓x_toft, ↓x_lofl, ↓x_loft, ↓x_iseq, ↓x_sqt, ↓x_sql, ↓x_turn, ↓x_lstR1, ↓x_rg1, ↓x_rg2, ↓x_rgK, ↓x_rgK1, ↓x_rgK2, ↓x_isi_non_int, ↓x_isi_non_bool, ↓x_isi_non_str, ↓x_isi_non_tuple, ↓x_isi_non_list, ↓x_isi_bl_int, ↓x_isi_bl_bool, ↓x_isi_bl_str, ↓x_isi_bl_tuple, ↓x_isi_bl_list, ↓x_isi_int_int, ↓x_isi_int_bool, ↓x_isi_int_str, ↓x_isi_int_tuple, ↓x_isi_int_list, ↓x_isi_str_int, ↓x_isi_str_bool, ↓x_isi_str_str, ↓x_isi_str_tuple, ↓x_isi_str_list, ↓x_isi_tup_int, ↓x_isi_tup_bool, ↓x_isi_tup_str, ↓x_isi_tup_tuple, ↓x_isi_tup_list, ↓x_isi_lst_int, ↓x_isi_lst_bool, ↓x_isi_lst_str, ↓x_isi_lst_tuple, ↓x_isi_lst_list, ↓x_all, ↓x_any, ↓x_sum, ↓x_bln, ↓x_blc, ↓x_itn, ↓x_itc, x_wG, tyD, ↓x_pot0, ↓x_pot1, ↓x_pot2, ↓x_pset0, ↓x_pset2, ↓x_vK, ↓x_cutnn, ↓x_cutns, ↓x_cutsn, ↓x_cutl, ↓x_cutt, ↓x_kyi, ↓x_kys, ↓x_ops, ↓x_kin, ↓x_kidx, ↓x_bm, ↓x_kindl, ↓x_kinds, ↓x_eqb, ↓x_neb, KD_MOST_MOTION, K_QUARTERS]
          refine ⟨fun h => ⟨by omega, ?_⟩, fun h => ?_⟩
          · simpa [h] using hR
          · have e : decide (1 ≤ b) = false := by simp; omega
            simpa [e] using hR
      · rw [isFr_no2 hl] at hR
        have hl2 : ¬ ((es.length : Int) = 2) := by omega
        simp only [startD, List.map_cons, List.map_nil, List.length_cons, List.length_nil, Nat.reduceAdd, Nat.reduceSub, List.replicate_succ, List.replicate_zero, List.cons_append, List.nil_append]; simp -implicitDefEqProofs [↓m_is_fraction, hl2, ↓lkK_0, ↓lkK_s, ↓stK_0, ↓stK_s, ↓x_var, ↓x_asg, ↓x_gtN, ↓stSK_c, ↓stSK_n, ↓x_par, ↓wpK_n, ↓wpK_c, ↓x_lc, ↓x_lc2, ↓x_lc2T, ↓x_app, ↓x_ext, ↓x_setI, ↓x_idxV, ↓x_lenV, ↓x_dget, ↓x_din, ↓x_dput, ↓atK_0, ↓atK_1, ↓atK_2, ↓atK_3, ↓atK_m1, ↓atK_m2, ↓atK_m3, ↓atK_m4, ↓x_idxl, ↓x_idxt, ↓x_idxs, ↓x_ret, ↓x_retN, ↓x_seq, ↓x_sif, ↓x_snil, ↓x_exp, ↓x_nev, ↓x_brk, ↓x_cnt, ↓x_sfor, ↓x_moNil, ↓x_moCons, ↓x_asgT, ↓x_gtT, ↓x_gtCons, ↓x_gtNil, ↓x_retV, ↓x_mov, ↓x_c, ↓x_bin, ↓x_un, ↓x_and, ↓x_or, ↓x_not, ↓x_ifE, ↓x_chain, ↓x_cb, ↓x_anil, ↓x_cons, ↓x_star, ↓x_tup, ↓x_lst, ↓x_dic0, ↓x_call, ↓x_callK, ↓x_yes, ↓x_toD, ↓x_toDo, ↓x_toB, ↓x_wT, ↓x_wF, ↓x_wD, ↓x_wN, ↓x_sub, ↓x_mul, ↓x_fdv, ↓x_mod, ↓x_pow, ↓x_lt, ↓x_le, ↓x_gt, ↓x_ge, ↓x_addi, ↓x_adds, ↓x_addt, ↓x_addl, ↓x_eqi, ↓x_nei, ↓x_eqs, ↓x_nes, ↓x_int, ↓x_nit, ↓x_inl, ↓x_nil, ↓x_isN, ↓x_notN, ↓x_neg, ↓x_lens, ↓x_lent, ↓x_lenl, ↓x_abs, ↓x_inti, ↓x_intb, ↓x_max, ↓x_min, ↓x_tofl, ↓x_toft, ↓x_lofl, ↓x_loft, ↓x_iseq, ↓x_sqt, ↓x_sql, ↓x_turn, ↓x_lstR1, ↓x_rg1, ↓x_rg2, ↓x_rgK, ↓x_rgK1, ↓x_rgK2, ↓x_isi_non_int, ↓x_isi_non_bool, ↓x_isi_non_str, ↓x_isi_non_tuple, ↓x_isi_non_list, ↓x_isi_bl_int, ↓x_isi_bl_bool, ↓x_isi_bl_str, ↓x_isi_bl_tuple, ↓x_isi_bl_list, ↓x_isi_int_int, ↓x_isi_int_bool, ↓x_isi_int_str, ↓x_isi_int_tuple, ↓x_isi_int_list, ↓x_isi_str_int, ↓x_isi_str_bool, ↓x_isi_str_str, ↓x_isi_str_tuple, ↓x_isi_str_list, ↓x_isi_tup_int, ↓x_isi_tup_bool, ↓x_isi_tup_str, ↓x_isi_tup_tuple, ↓x_isi_tup_list, ↓x_isi_lst_int, ↓x_isi_lst_bool, ↓x_isi_lst_str, ↓x_isi_lst_tuple, ↓x_isi_lst_list, ↓x_all, ↓x_any, ↓x_sum, ↓x_bln, ↓x_blc, ↓x_itn, ↓x_itc, x_wG, tyD, ↓x_pot0, ↓x_pot1, ↓x_pot2, ↓x_pset0, ↓x_pset2, ↓x_vK, ↓x_cutnn, ↓x_cutns, ↓x_cutsn, ↓x_cutl, ↓x_cutt, ↓x_kyi, ↓x_kys, ↓x_ops, ↓x_kin, ↓x_kidx, ↓x_bm, ↓x_kindl, ↓x_kinds, ↓x_eqb, ↓x_neb, KD_MOST_MOTION, K_QUARTERS]
        exact hR
    | non => simp only [startD, List.map_cons, List.map_nil, List.length_cons, List.length_nil, Nat.reduceAdd, Nat.reduceSub, List.replicate_succ, List.replicate_zero, List.cons_append, List.nil_append]; simp -implicitDefEqProofs [↓m_is_fraction, ↓lkK_0, ↓lkK_s, ↓stK_0, ↓stK_s, ↓x_var, ↓x_asg, ↓x_gtN, ↓stSK_c, ↓stSK_n, ↓x_par, ↓wpK_n, ↓wpK_c, ↓x_lc, ↓x_lc2, ↓x_lc2T, ↓x_app, ↓x_ext, ↓x_setI, ↓x_idxV, ↓x_lenV, ↓x_dget, ↓x_din, ↓x_dput, ↓atK_0, ↓atK_1, ↓atK_2, ↓atK_3, ↓atK_m1, ↓atK_m2, ↓atK_m3, ↓atK_m4, ↓x_idxl, ↓x_idxt, ↓x_idxs, ↓x_ret, ↓x_retN, ↓x_seq, ↓x_sif, ↓x_snil, ↓x_exp, ↓x_nev, ↓x_brk, ↓x_cnt, ↓x_sfor, ↓x_moNil, ↓x_moCons, ↓x_asgT, ↓x_gtT, ↓x_gtCons, ↓x_gtNil, ↓x_retV, ↓x_mov, ↓x_c, ↓x_bin, ↓x_un, ↓x_and, ↓x_or, ↓x_not, ↓x_ifE, ↓x_chain, ↓x_cb, ↓x_anil, ↓x_cons, ↓x_star, ↓x_tup, ↓x_lst, ↓x_dic0, ↓x_call, ↓x_callK, ↓x_yes, ↓x_toD, ↓x_toDo, ↓x_toB, ↓x_wT, ↓x_wF, ↓x_wD, ↓x_wN, ↓x_sub, ↓x_mul, ↓x_fdv, ↓x_mod, ↓x_pow, ↓x_lt, ↓x_le, ↓x_gt, ↓x_ge, ↓x_addi, ↓x_adds, ↓x_addt, ↓x_addl, ↓x_eqi, ↓x_nei, ↓x_eqs, ↓x_nes, ↓x_int, ↓x_nit, ↓x_inl, ↓x_nil, ↓x_isN, ↓x_notN, ↓x_neg, ↓x_lens, ↓x_lent, ↓x_lenl, ↓x_abs, ↓x_inti, ↓x_intb, ↓x_max, ↓x_min, ↓x_tofl, ↓x_toft, ↓x_lofl, ↓x_loft, ↓x_iseq, ↓x_sqt, ↓x_sql, ↓x_turn, ↓x_lstR1, ↓x_rg1, ↓x_rg2, ↓x_rgK, ↓x_rgK1, ↓x_rgK2, ↓x_isi_non_int, ↓x_isi_non_bool, ↓x_isi_non_str, ↓x_isi_non_tuple, ↓x_isi_non_list, ↓x_isi_bl_int, ↓x_isi_bl_bool, ↓x_isi_bl_str, ↓x_isi_bl_tuple, ↓x_isi_bl_list, ↓x_isi_int_int, ↓x_isi_int_bool, ↓x_isi_int_str, ↓x_isi_int_tuple, ↓x_isi_int_list, ↓x_isi_str_int, ↓x_isi_str_bool, ↓x_isi_str_str, ↓x_isi_str_tuple, ↓x_isi_str_list, ↓x_isi_tup_int, ↓x_isi_tup_bool, ↓x_isi_tup_str, ↓x_isi_tup_tuple, ↓x_isi_tup_list, ↓x_isi_lst_int, ↓x_isi_lst_bool, ↓x_isi_lst_str, ↓x_isi_lst_tuple, ↓x_isi_lst_list, ↓x_all, ↓x_any, ↓x_sum, ↓x_bln, ↓x_blc, ↓x_itn, ↓x_itc, x_wG, tyD, ↓x_pot0, ↓x_pot1, ↓x_pot2, ↓x_pset0, ↓x_pset2, ↓x_vK, ↓x_cutnn, ↓x_cutns, ↓x_cutsn, ↓x_cutl, ↓x_cutt, ↓x_kyi, ↓x_kys, ↓x_ops, ↓x_kin, ↓x_kidx, ↓x_bm, ↓x_kindl, ↓x_kinds, ↓x_eqb, ↓x_neb, KD_MOST_MOTION, K_QUARTERS]; exact hR
    | bl b => simp only [startD, List.map_cons, List.map_nil, List.length_cons, List.length_nil, Nat.reduceAdd, Nat.reduceSub, List.replicate_succ, List.replicate_zero, List.cons_append, List.nil_append]; simp -implicitDefEqProofs [↓m_is_fraction, ↓lkK_0, ↓lkK_s, ↓stK_0, ↓stK_s, ↓x_var, ↓x_asg, ↓x_gtN, ↓stSK_c, ↓stSK_n, ↓x_par, ↓wpK_n, ↓wpK_c, ↓x_lc, ↓x_lc2, ↓x_lc2T, ↓x_app, ↓x_ext, ↓x_setI, ↓x_idxV, ↓x_lenV, ↓x_dget, ↓x_din, ↓x_dput, ↓atK_0, ↓atK_1, ↓atK_2, ↓atK_3, ↓atK_m1, ↓atK_m2, ↓atK_m3, ↓atK_m4, ↓x_idxl, ↓x_idxt, ↓x_idxs, ↓x_ret, ↓x_retN, ↓x_seq, ↓x_sif, ↓x_snil, ↓x_exp, ↓x_nev, ↓x_brk, ↓x_cnt, ↓x_sfor, ↓x_moNil, ↓x_moCons, ↓x_asgT, ↓x_gtT, ↓x_gtCons, ↓x_gtNil, ↓x_retV, ↓x_mov, ↓x_c, ↓x_bin, ↓x_un, ↓x_and, ↓x_or, ↓x_not, ↓x_ifE, ↓x_chain, ↓x_cb, ↓x_anil, ↓x_cons, ↓x_star, ↓x_tup, ↓x_lst, ↓x_dic0, ↓x_call, ↓x_callK, ↓x_yes, ↓x_toD, ↓x_toDo, ↓x_toB, ↓x_wT, ↓x_wF, ↓x_wD, ↓x_wN, ↓x_sub, ↓x_mul, ↓x_fdv, ↓x_mod, ↓x_pow, ↓x_lt, ↓x_le, ↓x_gt, ↓x_ge, ↓x_addi, ↓x_adds, ↓x_addt, ↓x_addl, ↓x_eqi, ↓x_nei, ↓x_eqs, ↓x_nes, ↓x_int, ↓x_nit, ↓x_inl, ↓x_nil, ↓x_isN, ↓x_notN, ↓x_neg, ↓x_lens, ↓x_lent, ↓x_lenl, ↓x_abs, ↓x_inti, ↓x_intb, ↓x_max, ↓x_min, ↓x_tofl, ↓x_toft, ↓x_lofl, ↓x_loft, ↓x_iseq, ↓x_sqt, ↓x_sql, ↓x_turn, ↓x_lstR1, ↓x_rg1, ↓x_rg2, ↓x_rgK, ↓x_rgK1, ↓x_rgK2, ↓x_isi_non_int, ↓x_isi_non_bool, ↓x_isi_non_str, ↓x_isi_non_tuple, ↓x_isi_non_list, ↓x_isi_bl_int, ↓x_isi_bl_bool, ↓x_isi_bl_str, ↓x_isi_bl_tuple, ↓x_isi_bl_list, ↓x_isi_int_int, ↓x_isi_int_bool, ↓x_isi_int_str, ↓x_isi_int_tuple, ↓x_isi_int_list, ↓x_isi_str_int, ↓x_isi_str_bool, ↓x_isi_str_str, ↓x_isi_str_tuple, ↓x_isi_str_list, ↓x_isi_tup_int, ↓x_isi_tup_bool, ↓x_isi_tup_str, ↓x_isi_tup_tuple, ↓x_isi_tup_list, ↓x_isi_lst_int, ↓x_isi_lst_bool, ↓x_isi_lst_str, ↓x_isi_lst_tuple, ↓x_isi_lst_list, ↓x_all, ↓x_any, ↓x_sum, ↓x_bln, ↓x_blc, ↓x_itn, ↓x_itc, x_wG, tyD, ↓x_pot0, ↓x_pot1, ↓x_pot2, ↓x_pset0, ↓x_pset2, ↓x_vK, ↓x_cutnn, ↓x_cutns, ↓x_cutsn, ↓x_cutl, ↓x_cutt, ↓x_kyi, ↓x_kys, ↓x_ops, ↓x_kin, ↓x_kidx, ↓x_bm, ↓x_kindl, ↓x_kinds, ↓x_eqb, ↓x_neb, KD_MOST_MOTION, K_QUARTERS]; exact hR
    | int i => simp only [startD, List.map_cons, List.map_nil, List.length_cons, List.length_nil, Nat.reduceAdd, Nat.reduceSub, List.replicate_succ, List.replicate_zero, List.cons_append, List.nil_append]; simp -implicitDefEqProofs [↓m_is_fraction, ↓lkK_0, ↓lkK_s, ↓stK_0, ↓stK_s, ↓x_var, ↓x_asg, ↓x_gtN, ↓stSK_c, ↓stSK_n, ↓x_par, ↓wpK_n, ↓wpK_c, ↓x_lc, ↓x_lc2, ↓x_lc2T, ↓x_app, ↓x_ext, ↓x_setI, ↓x_idxV, ↓x_lenV, ↓x_dget, ↓x_din, ↓x_dput, ↓atK_0, ↓atK_1, ↓atK_2, ↓atK_3, ↓atK_m1, ↓atK_m2, ↓atK_m3, ↓atK_m4, ↓x_idxl, ↓x_idxt, ↓x_idxs, ↓x_ret, ↓x_retN, ↓x_seq, ↓x_sif, ↓x_snil, ↓x_exp, ↓x_nev, ↓x_brk, ↓x_cnt, ↓x_sfor, ↓x_moNil, ↓x_moCons, ↓x_asgT, ↓x_gtT, ↓x_gtCons, ↓x_gtNil, ↓x_retV, ↓x_mov, ↓x_c, ↓x_bin, ↓x_un, ↓x_and, ↓x_or, ↓x_not, ↓x_ifE, ↓x_chain, ↓x_cb, ↓x_anil, ↓x_cons, ↓x_star, ↓x_tup, ↓x_lst, ↓x_dic0, ↓x_call, ↓x_callK, ↓x_yes, ↓x_toD, ↓x_toDo, ↓x_toB, ↓x_wT, ↓x_wF, ↓x_wD, ↓x_wN, ↓x_sub, ↓x_mul, ↓x_fdv, ↓x_mod, ↓x_pow, ↓x_lt, ↓x_le, ↓x_gt, ↓x_ge, ↓x_addi, ↓x_adds, ↓x_addt, ↓x_addl, ↓x_eqi, ↓x_nei, ↓x_eqs, ↓x_nes, ↓x_int, ↓x_nit, ↓x_inl, ↓x_nil, ↓x_isN, ↓x_notN, ↓x_neg, ↓x_lens, ↓x_lent, ↓x_lenl, ↓x_abs, ↓x_inti, ↓x_intb, ↓x_max, ↓x_min, ↓x_tofl, ↓x_toft, ↓x_lofl, ↓x_loft, ↓x_iseq, ↓x_sqt, ↓x_sql, ↓x_turn, ↓x_lstR1, ↓x_rg1, ↓x_rg2, ↓x_rgK, ↓x_rgK1, ↓x_rgK2, ↓x_isi_non_int, ↓x_isi_non_bool, ↓x_isi_non_str, ↓x_isi_non_tuple, ↓x_isi_non_list, ↓x_isi_bl_int, ↓x_isi_bl_bool, ↓x_isi_bl_str, ↓x_isi_bl_tuple, ↓x_isi_bl_list, ↓x_isi_int_int, ↓x_isi_int_bool, ↓x_isi_int_str, ↓x_isi_int_tuple, ↓x_isi_int_list, ↓x_isi_str_int, ↓x_isi_str_bool, ↓x_isi_str_str, ↓x_isi_str_tuple, ↓x_isi_str_list, ↓x_isi_tup_int, ↓x_isi_tup_bool, ↓x_isi_tup_str, ↓x_isi_tup_tuple, ↓x_isi_tup_list, ↓x_isi_lst_int, ↓x_isi_lst_bool, ↓x_isi_lst_str, ↓x_isi_lst_tuple, ↓x_isi_lst_list, ↓x_all, ↓x_any, ↓x_sum, ↓x_bln, ↓x_blc, ↓x_itn, ↓x_itc, x_wG, tyD, ↓x_pot0, ↓x_pot1, ↓x_pot2, ↓x_pset0, ↓x_pset2, ↓x_vK, ↓x_cutnn, ↓x_cutns, ↓x_cutsn, ↓x_cutl, ↓x_cutt, ↓x_kyi, ↓x_kys, ↓x_ops, ↓x_kin, ↓x_kidx, ↓x_bm, ↓x_kindl, ↓x_kinds, ↓x_eqb, ↓x_neb, KD_MOST_MOTION, K_QUARTERS]; exact hR
    | str x => simp only [startD, List.map_cons, List.map_nil, List.length_cons, List.length_nil, Nat.reduceAdd, Nat.reduceSub, List.replicate_succ, List.replicate_zero, List.cons_append, List.nil_append]; simp -implicitDefEqProofs [↓m_is_fraction, ↓lkK_0, ↓lkK_s, ↓stK_0, ↓stK_s, ↓x_var, ↓x_asg, ↓x_gtN, ↓stSK_c, ↓stSK_n, ↓x_par, ↓wpK_n, ↓wpK_c, ↓x_lc, ↓x_lc2, ↓x_lc2T, ↓x_app, ↓x_ext, ↓x_setI, ↓x_idxV, ↓x_lenV, ↓x_dget, ↓x_din, ↓x_dput, ↓atK_0, ↓atK_1, ↓atK_2, ↓atK_3, ↓atK_m1, ↓atK_m2, ↓atK_m3, ↓atK_m4, ↓x_idxl, ↓x_idxt, ↓x_idxs, ↓x_ret, ↓x_retN, ↓x_seq, ↓x_sif, ↓x_snil, ↓x_exp, ↓x_nev, ↓x_brk, ↓x_cnt, ↓x_sfor, ↓x_moNil, ↓x_moCons, ↓x_asgT, ↓x_gtT, ↓x_gtCons, ↓x_gtNil, ↓x_retV, ↓x_mov, ↓x_c, ↓x_bin, ↓x_un, ↓x_and, ↓x_or, ↓x_not, ↓x_ifE, ↓x_chain, ↓x_cb, ↓x_anil, ↓x_cons, ↓x_star, ↓x_tup, ↓x_lst, ↓x_dic0, ↓x_call, ↓x_callK, ↓x_yes, ↓x_toD, ↓x_toDo, ↓x_toB, ↓x_wT, ↓x_wF, ↓x_wD, ↓x_wN, ↓x_sub, ↓x_mul, ↓x_fdv, ↓x_mod, ↓x_pow, ↓x_lt, ↓x_le, ↓x_gt, ↓x_ge, ↓x_addi, ↓x_adds, ↓x_addt, ↓x_addl, ↓x_eqi, ↓x_nei, ↓x_eqs, ↓x_nes, ↓x_int, ↓x_nit, ↓x_inl, ↓x_nil, ↓x_isN, ↓x_notN, ↓x_neg, ↓x_lens, ↓x_lent, ↓x_lenl, ↓x_abs, ↓x_inti, ↓x_intb, ↓x_max, ↓x_min, ↓x_tofl, ↓x_toft, ↓x_lofl, ↓x_loft, ↓x_iseq, ↓x_sqt, ↓x_sql, ↓x_turn, ↓x_lstR1, ↓x_rg1, ↓x_rg2, ↓x_rgK, ↓x_rgK1, ↓x_rgK2, ↓x_isi_non_int, ↓x_isi_non_bool, ↓x_isi_non_str, ↓x_isi_non_tuple, ↓x_isi_non_list, ↓x_isi_bl_int, ↓x_isi_bl_bool, ↓x_isi_bl_str, ↓x_isi_bl_tuple, ↓x_isi_bl_list, ↓x_isi_int_int, ↓x_isi_int_bool, ↓x_isi_int_str, ↓x_isi_int_tuple, ↓x_isi_int_list, ↓x_isi_str_int, ↓x_isi_str_bool, ↓x_isi_str_str, ↓x_isi_str_tuple, ↓x_isi_str_list, ↓x_isi_tup_int, ↓x_isi_tup_bool, ↓x_isi_tup_str, ↓x_isi_tup_tuple, ↓x_isi_tup_list, ↓x_isi_lst_int, ↓x_isi_lst_bool, ↓x_isi_lst_str, ↓x_isi_lst_tuple, ↓x_isi_lst_list, ↓x_all, ↓x_any, ↓x_sum, ↓x_bln, ↓x_blc, ↓x_itn, ↓x_itc, x_wG, tyD, ↓x_pot0, ↓x_pot1, ↓x_pot2, ↓x_pset0, ↓x_pset2, ↓x_vK, ↓x_cutnn, ↓x_cutns, ↓x_cutsn, ↓x_cutl, ↓x_cutt, ↓x_kyi, ↓x_kys, ↓x_ops, ↓x_kin, ↓x_kidx, ↓x_bm, ↓x_kindl, ↓x_kinds, ↓x_eqb, ↓x_neb, KD_MOST_MOTION, K_QUARTERS]; exact hR
    | ty x => cases h1
    | ref x => cases h1
    | pot => cases h1
    | lst x => simp only [startD, List.map_cons, List.map_nil, List.length_cons, List.length_nil, Nat.reduceAdd, Nat.reduceSub, List.replicate_succ, List.replicate_zero, List.cons_append, List.nil_append]; simp -implicitDefEqProofs [↓m_is_fraction, ↓lkK_0, ↓lkK_s, ↓stK_0, ↓stK_s, ↓x_var, ↓x_asg, ↓x_gtN, ↓stSK_c, ↓stSK_n, ↓x_par, ↓wpK_n, ↓wpK_c, ↓x_lc, ↓x_lc2, ↓x_lc2T, ↓x_app, ↓x_ext, ↓x_setI, ↓x_idxV, ↓x_lenV, ↓x_dget, ↓x_din, ↓x_dput, ↓atK_0, ↓atK_1, ↓atK_2, ↓atK_3, ↓atK_m1, ↓atK_m2, ↓atK_m3, ↓atK_m4, ↓x_idxl, ↓x_idxt, ↓x_idxs, ↓x_ret, ↓x_retN, ↓x_seq, ↓x_sif, ↓x_snil, ↓x_exp, ↓x_nev, ↓x_brk, ↓x_cnt, ↓x_sfor, ↓x_moNil, ↓x_moCons, ↓x_asgT, ↓x_gtT, ↓x_gtCons, ↓x_gtNil, ↓x_retV, ↓x_mov, ↓x_c, ↓x_bin, ↓x_un, ↓x_and, ↓x_or, ↓x_not, ↓x_ifE, ↓x_chain, ↓x_cb, ↓x_anil, ↓x_cons, ↓x_star, ↓x_tup, ↓x_lst, ↓x_dic0, ↓x_call, ↓x_callK, ↓x_yes, ↓x_toD, ↓x_toDo, ↓x_toB, ↓x_wT, ↓x_wF, ↓x_wD, ↓x_wN, ↓x_sub, ↓x_mul, ↓x_fdv, ↓x_mod, ↓x_pow, ↓x_lt, ↓x_le, ↓x_gt, ↓x_ge, ↓x_addi, ↓x_adds, ↓x_addt, ↓x_addl, ↓x_eqi, ↓x_nei, ↓x_eqs, ↓x_nes, ↓x_int, ↓x_nit, ↓x_inl, ↓x_nil, ↓x_isN, ↓x_notN, ↓x_neg, ↓x_lens, ↓x_lent, ↓x_lenl, ↓x_abs, ↓x_inti, ↓x_intb, ↓x_max, ↓x_min, ↓x_tofl, ↓x_toft, ↓x_lofl, ↓x_loft, ↓x_iseq, ↓x_sqt, ↓x_sql, ↓x_turn, ↓x_lstR1, ↓x_rg1, ↓x_rg2, ↓x_rgK, ↓x_rgK1, ↓x_rgK2, ↓x_isi_non_int, ↓x_isi_non_bool, ↓x_isi_non_str, ↓x_isi_non_tuple, ↓x_isi_non_list, ↓x_isi_bl_int, ↓x_isi_bl_bool, ↓x_isi_bl_str, ↓x_isi_bl_tuple, ↓x_isi_bl_list, ↓x_isi_int_int, ↓x_isi_int_bool, ↓x_isi_int_str, ↓x_isi_int_tuple, ↓x_isi_int_list, ↓x_isi_str_int, ↓x_isi_str_bool, ↓x_isi_str_str, ↓x_isi_str_tuple, ↓x_isi_str_list, ↓x_isi_tup_int, ↓x_isi_tup_bool, ↓x_isi_tup_str, ↓x_isi_tup_tuple, ↓x_isi_tup_list, ↓x_isi_lst_int, ↓x_isi_lst_bool, ↓x_isi_lst_str, ↓x_isi_lst_tuple, ↓x_isi_lst_list, ↓x_all, ↓x_any, ↓x_sum, ↓x_bln, ↓x_blc, ↓x_itn, ↓x_itc, x_wG, tyD, ↓x_pot0, ↓x_pot1, ↓x_pot2, ↓x_pset0, ↓x_pset2, ↓x_vK, ↓x_cutnn, ↓x_cutns, ↓x_cutsn, ↓x_cutl, ↓x_cutt, ↓x_kyi, ↓x_kys, ↓x_ops, ↓x_kin, ↓x_kidx, ↓x_bm, ↓x_kindl, ↓x_kinds, ↓x_eqb, ↓x_neb, KD_MOST_MOTION, K_QUARTERS]; exact hR
  · exact h.elim

def mostM (s : Int) : Int := if s = 1 then 1 else 7
def isMo (s : Int) (d : D) : Bool := match d with
  | .int i => decide (0 ≤ i) && decide (i ≤ mostM s)
  | _ => false
def S_is_motion : SpD := fun ds n R _ => match ds with
  | [.int s, d] => (s = 1 ∨ s = 2) ∧ (tyD d).isSome = true ∧ R (.dat (.bl (isMo s d))) n
  | _ => False

def m_is_motion : MS := sRet (mAnd (mCall S_is_integer (aCons (mVar 1) (aNil))) (mChain gLe gLe (mC (.int 0)) (mVar 1) (mKIdx KD_MOST_MOTION (mVar 0))))
theorem sat_is_motion : ∀ ds n R RX, S_is_motion ds n R RX → fnM 2 2 m_is_motion ds n R fun _ _ _ => False := by
  intro ds n R RX h
  unfold S_is_motion at h
  split at h
  · rename_i s d
    obtain ⟨hs, h1, hR⟩ := h
    refine ⟨rfl, ?_⟩
    have l1 : lookD KD_MOST_MOTION (.inl s) = some (.int (mostM s)) := by rcases hs with rfl | rfl <;> rfl
    have o1 : okK KD_MOST_MOTION (.inl s) = true := rfl
    by_cases hi : isI d = true
    · obtain ⟨i, rfl⟩ := isI_some hi
      simp only [startD, List.map_cons, List.map_nil, List.length_cons, List.length_nil, Nat.reduceAdd, Nat.reduceSub, List.replicate_succ, List.replicate_zero, List.cons_append, List.nil_append]; simp -implicitDefEqProofs [↓m_is_motion, ↓S_is_integer, isI, o1, ↓(opK_of l1), ↓lkK_0, ↓lkK_s, ↓stK_0, ↓stK_s, ↓x_var, ↓x_asg, ↓x_gtN, ↓stSK_c, ↓stSK_n, ↓x_par, ↓wpK_n, ↓wpK_c, ↓x_lc, ↓x_lc2, ↓x_lc2T, ↓x_app, ↓x_ext, ↓x_setI, ↓x_idxV, ↓x_lenV, ↓x_dget, ↓x_din, ↓x_dput, ↓atK_0, ↓atK_1, ↓atK_2, ↓atK_3, ↓atK_m1, ↓atK_m2, ↓atK_m3, ↓atK_m4, ↓x_idxl, ↓x_idxt, ↓x_idxs, ↓x_ret, ↓x_retN, ↓x_seq, ↓x_sif, ↓x_snil, ↓x_exp, ↓x_nev, ↓x_brk, ↓x_cnt, ↓x_sfor, ↓x_moNil, ↓x_moCons, ↓x_asgT, ↓x_gtT, ↓x_gtCons, ↓x_gtNil, ↓x_retV, ↓x_mov, ↓x_c, ↓x_bin, ↓x_un, ↓x_and, ↓x_or, ↓x_not, ↓x_ifE, ↓x_chain, ↓x_cb, ↓x_anil, ↓x_cons, ↓x_star, ↓x_tup, ↓x_lst, ↓x_dic0, ↓x_call, ↓x_callK, ↓x_yes, ↓x_toD, ↓x_toDo, ↓x_toB, ↓x_wT, ↓x_wF, ↓x_wD, ↓x_wN, ↓x_sub, ↓x_mul, ↓x_fdv, ↓x_mod, ↓x_pow, ↓x_lt, ↓x_le, ↓x_gt, ↓x_ge, ↓x_addi, ↓x_adds, ↓x_addt, ↓x_addl, ↓x_eqi, ↓x_nei, ↓x_eqs, ↓x_nes, ↓x_int, ↓x_nit, ↓x_inl, ↓x_nil, ↓x_isN, ↓x_notN, ↓x_neg, ↓x_lens, ↓x_lent, ↓x_lenl, ↓x_abs, ↓x_inti, ↓x_intb, ↓x_max, ↓x_min, ↓x_tofl, ↓x_toft, ↓x_lofl, ↓x_loft, ↓x_iseq, ↓x_sqt, ↓x_sql, ↓x_turn, ↓x_lstR1, ↓x_rg1, ↓x_rg2, ↓x_rgK, ↓x_rgK1, ↓x_rgK2, ↓x_isi_non_int, ↓x_isi_non_bool, ↓x_isi_non_str, ↓x_isi_non_tuple, ↓x_isi_non_list, ↓x_isi_bl_int, ↓x_isi_bl_bool, ↓x_isi_bl_str, ↓x_isi_bl_tuple, ↓x_isi_bl_list, ↓x_isi_int_int, ↓x_isi_int_bool, ↓x_isi_int_str, ↓x_isi_int_tuple, ↓x_isi_int_list, ↓x_isi_str_int, ↓x_isi_str_bool, ↓x_isi_str_str, ↓x_isi_str_tuple, ↓x_isi_str_list, ↓x_isi_tup_int, ↓x_isi_tup_bool, ↓x_isi_tup_str, ↓x_isi_tup_tuple, ↓x_isi_tup_list, ↓x_isi_lst_int, ↓x_isi_lst_bool, ↓x_isi_lst_str, ↓x_isi_lst_tuple, ↓x_isi_lst_list, ↓x_all, ↓x_any, ↓x_sum, ↓x_bln, ↓x_blc, ↓x_itn, ↓x_itc, x_wG, tyD, ↓x_pot0, ↓x_pot1, ↓x_pot2, ↓x_pset0, ↓x_pset2, ↓x_vK, ↓x_cutnn, ↓x_cutns, ↓x_cutsn, ↓x_cutl, ↓x_cutt, ↓x_kyi, ↓x_kys, ↓x_ops, ↓x_kin, ↓x_kidx, ↓x_bm, ↓x_kindl, ↓x_kinds, ↓x_eqb, ↓x_neb, KD_MOST_MOTION, K_QUARTERS]
      refine ⟨fun h0 => ?_, fun h0 => ?_⟩
      · simpa [isMo, h0] using hR
      · have e : decide (0 ≤ i) = false := by simp; omega
        simpa [isMo, e] using hR
    · have hi : isI d = false := by simpa using hi
      simp only [startD, List.map_cons, List.map_nil, List.length_cons, List.length_nil, Nat.reduceAdd, Nat.reduceSub, List.replicate_succ, List.replicate_zero, List.cons_append, List.nil_append]; simp -implicitDefEqProofs [↓m_is_motion, ↓S_is_integer, hi, o1, ↓(opK_of l1), ↓lkK_0, ↓lkK_s, ↓stK_0, ↓stK_s, ↓x_var, ↓x_asg, ↓x_gtN, ↓stSK_c, ↓stSK_n, ↓x_par, ↓wpK_n, ↓wpK_c, ↓x_lc, ↓x_lc2, ↓x_lc2T, ↓x_app, ↓x_ext, ↓x_setI, ↓x_idxV, ↓x_lenV, ↓x_dget, ↓x_din, ↓x_dput, ↓atK_0, ↓atK_1, ↓atK_2, ↓atK_3, ↓atK_m1, ↓atK_m2, ↓atK_m3, ↓atK_m4, ↓x_idxl, ↓x_idxt, ↓x_idxs, ↓x_ret, ↓x_retN, ↓x_seq, ↓x_sif, ↓x_snil, ↓x_exp, ↓x_nev, ↓x_brk, ↓x_cnt, ↓x_sfor, ↓x_moNil, ↓x_moCons, ↓x_asgT, ↓x_gtT, ↓x_gtCons, ↓x_gtNil, ↓x_retV, ↓x_mov, ↓x_c, ↓x_bin, ↓x_un, ↓x_and, ↓x_or, ↓x_not, ↓x_ifE, ↓x_chain, ↓x_cb, ↓x_anil, ↓x_cons, ↓x_star, ↓x_tup, ↓x_lst, ↓x_dic0, ↓x_call, ↓x_callK, ↓x_yes, ↓x_toD, ↓x_toDo, ↓x_toB, ↓x_wT, ↓x_wF, ↓x_wD, ↓x_wN, ↓x_sub, ↓x_mul, ↓x_fdv, ↓x_mod, ↓x_pow, ↓x_lt, ↓x_le, ↓x_gt, ↓x_ge, ↓x_addi, ↓x_adds, ↓x_addt, ↓x_addl, ↓x_eqi, ↓x_nei, ↓x_eqs, ↓x_nes, ↓x_int, ↓x_nit, ↓x_inl, ↓x_nil, ↓x_isN, ↓x_notN, ↓x_neg, ↓x_lens, ↓x_lent, ↓x_lenl, ↓x_abs, ↓x_inti, ↓x_intb, ↓x_max, ↓x_min, ↓x_tofl, ↓x_toft, ↓x_lofl, ↓x_loft, ↓x_iseq, ↓x_sqt, ↓x_sql, ↓x_turn, ↓x_lstR1, ↓x_rg1, ↓x_rg2, ↓x_rgK, ↓x_rgK1, ↓x_rgK2, ↓x_isi_non_int, ↓x_isi_non_bool, ↓x_isi_non_str, ↓x_isi_non_tuple, ↓x_isi_non_list, ↓x_isi_bl_int, ↓x_isi_bl_bool, ↓x_isi_bl_str, ↓x_isi_bl_tuple, ↓x_isi_bl_list, ↓x_isi_int_int, ↓x_isi_int_bool, ↓x_isi_int_str, ↓x_isi_int_tuple, ↓x_isi_int_list, ↓x_isi_str_int, ↓x_isi_str_bool, ↓x_isi_str_str, ↓x_isi_str_tuple, ↓x_isi_str_list, ↓x_isi_tup_int, ↓x_isi_tup_bool, ↓x_isi_tup_str, ↓x_isi_tup_tuple, ↓x_isi_tup_list, ↓x_isi_lst_int, ↓x_isi_lst_bool, ↓x_isi_lst_str, ↓x_isi_lst_tuple, ↓x_isi_lst_list, ↓x_all, ↓x_any, ↓x_sum, ↓x_bln, ↓x_blc, ↓x_itn, ↓x_itc, x_wG, tyD, ↓x_pot0, ↓x_pot1, ↓x_pot2, ↓x_pset0, ↓x_pset2, ↓x_vK, ↓x_cutnn, ↓x_cutns, ↓x_cutsn, ↓x_cutl, ↓x_cutt, ↓x_kyi, ↓x_kys, ↓x_ops, ↓x_kin, ↓x_kidx, ↓x_bm, ↓x_kindl, ↓x_kinds, ↓x_eqb, ↓x_neb, KD_MOST_MOTION, K_QUARTERS]
      refine ⟨h1, ?_⟩
      have e : isMo s d = false := by cases d <;> first | rfl | cases hi
      rw [e] at hR; exact hR
  · exact h.elim

def S_check_sides : SpD := fun ds n R _ => match ds with
  | [.int s] => (s = 1 ∨ s = 2) ∧ R (.dat .non) n
  | _ => False

def m_check_sides : MS := sIf (mOr (mNot (mCall S_is_integer (aCons (mVar 0) (aNil)))) (mKIn true KD_MOST_MOTION (mVar 0))) (sNev) (sNil)
theorem sat_check_sides : ∀ ds n R RX, S_check_sides ds n R RX → fnM 1 1 m_check_sides ds n R fun _ _ _ => False := by
  intro ds n R RX h
  unfold S_check_sides at h
  split at h
  · rename_i s
    obtain ⟨hs, hR⟩ := h
    refine ⟨rfl, ?_⟩
    have l1 : (lookD KD_MOST_MOTION (.inl s)).isSome = true := by rcases hs with rfl | rfl <;> rfl
    have o1 : okK KD_MOST_MOTION (.inl s) = true := rfl
    simp only [startD, List.map_cons, List.map_nil, List.length_cons, List.length_nil, Nat.reduceAdd, Nat.reduceSub, List.replicate_succ, List.replicate_zero, List.cons_append, List.nil_append]; simp -implicitDefEqProofs [↓m_check_sides, ↓S_is_integer, isI, o1, l1, ↓lkK_0, ↓lkK_s, ↓stK_0, ↓stK_s, ↓x_var, ↓x_asg, ↓x_gtN, ↓stSK_c, ↓stSK_n, ↓x_par, ↓wpK_n, ↓wpK_c, ↓x_lc, ↓x_lc2, ↓x_lc2T, ↓x_app, ↓x_ext, ↓x_setI, ↓x_idxV, ↓x_lenV, ↓x_dget, ↓x_din, ↓x_dput, ↓atK_0, ↓atK_1, ↓atK_2, ↓atK_3, ↓atK_m1, ↓atK_m2, ↓atK_m3, ↓atK_m4, ↓x_idxl, ↓x_idxt, ↓x_idxs, ↓x_ret, ↓x_retN, ↓x_seq, ↓x_sif, ↓x_snil, ↓x_exp, ↓x_nev, ↓x_brk, ↓x_cnt, ↓x_sfor, ↓x_moNil, ↓x_moCons, ↓x_asgT, ↓x_gtT, ↓x_gtCons, ↓x_gtNil, ↓x_retV, ↓x_mov, ↓x_c, ↓x_bin, ↓x_un, ↓x_and, ↓x_or, ↓x_not, ↓x_ifE, ↓x_chain, ↓x_cb, ↓x_anil, ↓x_cons, ↓x_star, ↓x_tup, ↓x_lst, ↓x_dic0, ↓x_call, ↓x_callK, ↓x_yes, ↓x_toD, ↓x_toDo, ↓x_toB, ↓x_wT, ↓x_wF, ↓x_wD, ↓x_wN, ↓x_sub, ↓x_mul, ↓x_fdv, ↓x_mod, ↓x_pow, ↓x_lt, ↓x_le, ↓x_gt, ↓x_ge, ↓x_addi, ↓x_adds, ↓x_addt, ↓x_addl, ↓x_eqi, ↓x_nei, ↓x_eqs, ↓x_nes, ↓x_int, ↓x_nit, ↓x_inl, ↓x_nil, ↓x_isN, ↓x_notN, ↓x_neg, ↓x_lens, ↓x_lent, ↓x_lenl, ↓x_abs, ↓x_inti, ↓x_intb, ↓x_max, ↓x_min, ↓x_tofl, ↓x_toft, ↓x_lofl, ↓x_loft, ↓x_iseq, ↓x_sqt, ↓x_sql, ↓x_turn, ↓x_lstR1, ↓x_rg1, ↓x_rg2, ↓x_rgK, ↓x_rgK1, ↓x_rgK2, ↓x_isi_non_int, ↓x_isi_non_bool, ↓x_isi_non_str, ↓x_isi_non_tuple, ↓x_isi_non_list, ↓x_isi_bl_int, ↓x_isi_bl_bool, ↓x_isi_bl_str, ↓x_isi_bl_tuple, ↓x_isi_bl_list, ↓x_isi_int_int, ↓x_isi_int_bool, ↓x_isi_int_str, ↓x_isi_int_tuple, ↓x_isi_int_list, ↓x_isi_str_int, ↓x_isi_str_bool, ↓x_isi_str_str, ↓x_isi_str_tuple, ↓x_isi_str_list, ↓x_isi_tup_int, ↓x_isi_tup_bool, ↓x_isi_tup_str, ↓x_isi_tup_tuple, ↓x_isi_tup_list, ↓x_isi_lst_int, ↓x_isi_lst_bool, ↓x_isi_lst_str, ↓x_isi_lst_tuple, ↓x_isi_lst_list, ↓x_all, ↓x_any, ↓x_sum, ↓x_bln, ↓x_blc, ↓x_itn, ↓x_itc, x_wG, tyD, ↓x_pot0, ↓x_pot1, ↓x_pot2, ↓x_pset0, ↓x_pset2, ↓x_vK, ↓x_cutnn, ↓x_cutns, ↓x_cutsn, ↓x_cutl, ↓x_cutt, ↓x_kyi, ↓x_kys, ↓x_ops, ↓x_kin, ↓x_kidx, ↓x_bm, ↓x_kindl, ↓x_kinds, ↓x_eqb, ↓x_neb, KD_MOST_MOTION, K_QUARTERS]
    exact hR
  · exact h.elim

def S_check_motion : SpD := fun ds n R _ => match ds with
  | [.int s, .int m] => (s = 1 ∨ s = 2) ∧ 0 ≤ m ∧ m ≤ mostM s ∧ R (.dat .non) n
  | _ => False

def m_check_motion : MS := sIf (mNot (mCall S_is_motion (aCons (mVar 0) (aCons (mVar 1) (aNil))))) (sNev) (sNil)
theorem sat_check_motion : ∀ ds n R RX, S_check_motion ds n R RX → fnM 2 2 m_check_motion ds n R fun _ _ _ => False := by
  intro ds n R RX h
  unfold S_check_motion at h
  split at h
  · rename_i s m
    obtain ⟨hs, h1, h2, hR⟩ := h
    refine ⟨rfl, ?_⟩
    have e : isMo s (.int m) = true := by simp [isMo]; omega
    simp only [startD, List.map_cons, List.map_nil, List.length_cons, List.length_nil, Nat.reduceAdd, Nat.reduceSub, List.replicate_succ, List.replicate_zero, List.cons_append, List.nil_append]; simp -implicitDefEqProofs [↓m_check_motion, ↓S_is_motion, e, ↓lkK_0, ↓lkK_s, ↓stK_0, ↓stK_s, ↓x_var, ↓x_asg, ↓x_gtN, ↓stSK_c, ↓stSK_n, ↓x_par, ↓wpK_n, ↓wpK_c, ↓x_lc, ↓x_lc2, ↓x_lc2T, ↓x_app, ↓x_ext, ↓x_setI, ↓x_idxV, ↓x_lenV, ↓x_dget, ↓x_din, ↓x_dput, ↓atK_0, ↓atK_1, ↓atK_2, ↓atK_3, ↓atK_m1, ↓atK_m2, ↓atK_m3, ↓atK_m4, ↓x_idxl, ↓x_idxt, ↓x_idxs, ↓x_ret, ↓x_retN, ↓x_seq, ↓x_sif, ↓x_snil, ↓x_exp, ↓x_nev, ↓x_brk, ↓x_cnt, ↓x_sfor, ↓x_moNil, ↓x_moCons, ↓x_asgT, ↓x_gtT, ↓x_gtCons, ↓x_gtNil, ↓x_retV, ↓x_mov, ↓x_c, ↓x_bin, ↓x_un, ↓x_and, ↓x_or, ↓x_not, ↓x_ifE, ↓x_chain, ↓x_cb, ↓x_anil, ↓x_cons, ↓x_star, ↓x_tup, ↓x_lst, ↓x_dic0, ↓x_call, ↓x_callK, ↓x_yes, ↓x_toD, ↓x_toDo, ↓x_toB, ↓x_wT, ↓x_wF, ↓x_wD, ↓x_wN, ↓x_sub, ↓x_mul, ↓x_fdv, ↓x_mod, ↓x_pow, ↓x_lt, ↓x_le, ↓x_gt, ↓x_ge, ↓x_addi, ↓x_adds, ↓x_addt, ↓x_addl, ↓x_eqi, ↓x_nei, ↓x_eqs, ↓x_nes, ↓x_int, ↓x_nit, ↓x_inl, ↓x_nil, ↓x_isN, ↓x_notN, ↓x_neg, ↓x_lens, ↓x_lent, ↓x_lenl, ↓x_abs, ↓x_inti, ↓x_intb, ↓x_max, ↓x_min, ↓x_tofl, ↓x_toft, ↓x_lofl, ↓x_loft, ↓x_iseq, ↓x_sqt, ↓x_sql, ↓x_turn, ↓x_lstR1, ↓x_rg1, ↓x_rg2, ↓x_rgK, ↓x_rgK1, ↓x_rgK2, ↓x_isi_non_int, ↓x_isi_non_bool, ↓x_isi_non_str, ↓x_isi_non_tuple, ↓x_isi_non_list, ↓x_isi_bl_int, ↓x_isi_bl_bool, ↓x_isi_bl_str, ↓x_isi_bl_tuple, ↓x_isi_bl_list, ↓x_isi_int_int, ↓x_isi_int_bool, ↓x_isi_int_str, ↓x_isi_int_tuple, ↓x_isi_int_list, ↓x_isi_str_int, ↓x_isi_str_bool, ↓x_isi_str_str, ↓x_isi_str_tuple, ↓x_isi_str_list, ↓x_isi_tup_int, ↓x_isi_tup_bool, ↓x_isi_tup_str, ↓x_isi_tup_tuple, ↓x_isi_tup_list, ↓x_isi_lst_int, ↓x_isi_lst_bool, ↓x_isi_lst_str, ↓x_isi_lst_tuple, ↓x_isi_lst_list, ↓x_all, ↓x_any, ↓x_sum, ↓x_bln, ↓x_blc, ↓x_itn, ↓x_itc, x_wG, tyD, ↓x_pot0, ↓x_pot1, ↓x_pot2, ↓x_pset0, ↓x_pset2, ↓x_vK, ↓x_cutnn, ↓x_cutns, ↓x_cutsn, ↓x_cutl, ↓x_cutt, ↓x_kyi, ↓x_kys, ↓x_ops, ↓x_kin, ↓x_kidx, ↓x_bm, ↓x_kindl, ↓x_kinds, ↓x_eqb, ↓x_neb, KD_MOST_MOTION, K_QUARTERS]
    exact ⟨hs, hR⟩
  · exact h.elim

/-- two motions, one behind the other -/
def mjI (s one other : Int) : Int := if s = 1 then (one + other) % 2 else
  ((if 4 ≤ other then -(one % 4) else one % 4) + other) % 4 + (if 4 ≤ one ↔ 4 ≤ other then 0 else 4)
def S_motions_joined : SpD := fun ds n R _ => match ds with
  | [.int s, .int a, .int b] => R (.dat (.int (mjI s a b))) n
  | _ => False

def m_motions_joined : MS := sSeq (sIf (mBin (gEq false) (mVar 0) (mC (.int 1))) (sRet (mBin gMod (mBin gAdd (mVar 1) (mVar 2)) (mC (.int 2)))) (sNil)) (sSeq (sAsg 3 (mBin gMod (mVar 1) (mC K_QUARTERS))) (sSeq (sIf (mBin gGe (mVar 2) (mC K_QUARTERS)) (sAsg 3 (mUn gNeg (mVar 3))) (sNil)) (sSeq (sAsg 4 (mBin (gEq true) (mBin gGe (mVar 1) (mC K_QUARTERS)) (mBin gGe (mVar 2) (mC K_QUARTERS)))) (sRet (mBin gAdd (mBin gMod (mBin gAdd (mVar 3) (mVar 2)) (mC K_QUARTERS)) (mIfE (mVar 4) (mC K_QUARTERS) (mC (.int 0))))))))
theorem sat_motions_joined : ∀ ds n R RX, S_motions_joined ds n R RX → fnM 3 5 m_motions_joined ds n R fun _ _ _ => False := by
  intro ds n R RX h
  unfold S_motions_joined at h
  split at h
  · rename_i s a b
    have hR := h
    refine ⟨rfl, ?_⟩
    have key : ∀ v : Int, v = mjI s a b → R (.dat (.int v)) n := fun v e => e ▸ hR
    simp only [startD, List.map_cons, List.map_nil, List.length_cons, List.length_nil, Nat.reduceAdd, Nat.reduceSub, List.replicate_succ, List.replicate_zero, List.cons_append, List.nil_append]; simp -implicitDefEqProofs [↓m_motions_joined, ↓lkK_0, ↓lkK_s, ↓stK_0, ↓stK_s, ↓x_var, ↓x_asg, ↓x_gtN, ↓stSK_c, ↓stSK_n, ↓x_par, ↓wpK_n, ↓wpK_c, ↓x_lc, ↓x_lc2, ↓x_lc2T, ↓x_app, ↓x_ext, ↓x_setI, ↓x_idxV, ↓x_lenV, ↓x_dget, ↓x_din, ↓x_dput, ↓atK_0, ↓atK_1, ↓atK_2, ↓atK_3, ↓atK_m1, ↓atK_m2, ↓atK_m3, ↓atK_m4, ↓x_idxl, ↓x_idxt, ↓x_idxs, ↓x_ret, ↓x_retN, ↓x_seq, ↓x_sif, ↓x_snil, ↓x_exp, ↓x_nev, ↓x_brk, ↓x_cnt, ↓x_sfor, ↓x_moNil, ↓x_moCons, ↓x_asgT, ↓x_gtT, ↓x_gtCons, ↓x_gtNil, ↓x_retV, ↓x_mov, ↓x_c, ↓x_bin, ↓x_un, ↓x_and, ↓x_or, ↓x_not, ↓x_ifE, ↓x_chain, ↓x_cb, ↓x_anil, ↓x_cons, ↓x_star, ↓x_tup, ↓x_lst, ↓x_dic0, ↓x_call, ↓x_callK, ↓x_yes, ↓x_toD, ↓x_toDo, ↓x_toB, ↓x_wT, ↓x_wF, ↓x_wD, ↓x_wN, ↓x_sub, ↓x_mul, ↓x_fdv, ↓x_mod, ↓x_pow, ↓x_lt, ↓x_le, ↓x_gt, ↓x_ge, ↓x_addi, ↓x_adds, ↓x_addt, ↓x_addl, ↓x_eqi, ↓x_nei, ↓x_eqs, ↓x_nes, ↓x_int, ↓x_nit, ↓x_inl, ↓x_nil, ↓x_isN, ↓x_notN, ↓x_neg, ↓x_lens, ↓x_lent, ↓x_lenl, ↓x_abs, ↓x_inti, ↓x_intb, ↓x_max, ↓x_min, ↓x_tofl, ↓x_toft, ↓x_lofl, ↓x_loft, ↓x_iseq, ↓x_sqt, ↓x_sql, ↓x_turn, ↓x_lstR1, ↓x_rg1, ↓x_rg2, ↓x_rgK, ↓x_rgK1, ↓x_rgK2, ↓x_isi_non_int, ↓x_isi_non_bool, ↓x_isi_non_str, ↓x_isi_non_tuple, ↓x_isi_non_list, ↓x_isi_bl_int, ↓x_isi_bl_bool, ↓x_isi_bl_str, ↓x_isi_bl_tuple, ↓x_isi_bl_list, ↓x_isi_int_int, ↓x_isi_int_bool, ↓x_isi_int_str, ↓x_isi_int_tuple, ↓x_isi_int_list, ↓x_isi_str_int, ↓x_isi_str_bool, ↓x_isi_str_str, ↓x_isi_str_tuple, ↓x_isi_str_list, ↓x_isi_tup_int, ↓x_isi_tup_bool, ↓x_isi_tup_str, ↓x_isi_tup_tuple, ↓x_isi_tup_list, ↓x_isi_lst_int, ↓x_isi_lst_bool, ↓x_isi_lst_str, ↓x_isi_lst_tuple, ↓x_isi_lst_list, ↓x_all, ↓x_any, ↓x_sum, ↓x_bln, ↓x_blc, ↓x_itn, ↓x_itc, x_wG, tyD, ↓x_pot0, ↓x_pot1, ↓x_pot2, ↓x_pset0, ↓x_pset2, ↓x_vK, ↓x_cutnn, ↓x_cutns, ↓x_cutsn, ↓x_cutl, ↓x_cutt, ↓x_kyi, ↓x_kys, ↓x_ops, ↓x_kin, ↓x_kidx, ↓x_bm, ↓x_kindl, ↓x_kinds, ↓x_eqb, ↓x_neb, KD_MOST_MOTION, K_QUARTERS]
    refine ⟨fun hs => key _ (by unfold mjI; rw [if_pos hs]), fun hs => ⟨fun h4 => ⟨fun h5 => key _ ?_, fun h5 => key _ ?_⟩, fun h4 => ⟨fun h5 => key _ ?_, fun h5 => key _ ?_⟩⟩⟩ <;> (unfold mjI; rw [if_neg hs]; (repeat' split) <;> omega)
  · exact h.elim

/-- a quarter turn of two numbers within low -/
def rotI (low : Int) : Nat → Int × Int → Int × Int
  | 0, p => p
  | k + 1, p => rotI low k (low - p.2, p.1)
/-- a motion, on what is told by whole numbers within low -/
def ledP (motion low : Int) (p : Int × Int) : Int × Int := rotI low (motion % 4).toNat (if 4 ≤ motion then (low - p.1, p.2) else p)
def ledL (motion low : Int) : List Int → List Int
  | [a] => if motion = 0 then [a] else [low - a]
  | [a, b] => [(ledP motion low (a, b)).1, (ledP motion low (a, b)).2]
  | l => l
def S_cell_moved : SpD := fun ds n R _ => ∃ (size m : Int) (l : List Int), ds = [.int size, .int m, tupI l] ∧ (l.length = 1 ∨ l.length = 2) ∧ 0 ≤ m ∧ m < 8 ∧ R (.dat (tupI (ledL m (size - 1) l))) n

def m_cell_moved : MS := sSeq (sIf (mBin (gEq false) (mCB gLen (aCons (mVar 2) (aNil))) (mC (.int 1))) (sRet (mIfE (mBin (gEq false) (mVar 1) (mC (.int 0))) (mVar 2) (mTup (aCons (mBin PL.gSub (mBin PL.gSub (mVar 0) (mC (.int 1))) (mBin gIdx (mVar 2) (mC (.int 0)))) (aNil))))) (sNil)) (sSeq (sAsgT (gtT 2 (gtCons (gtN 3) (gtCons (gtN 4) (gtNil)))) (mVar 2)) (sSeq (sIf (mBin gGe (mVar 1) (mC K_QUARTERS)) (sAsg 3 (mBin PL.gSub (mBin PL.gSub (mVar 0) (mC (.int 1))) (mVar 3))) (sNil)) (sSeq (sFor (iRg1 (aCons (mBin gMod (mVar 1) (mC K_QUARTERS)) (aNil))) (gtN 5) (sParN [3, 4] (moCons (mBin PL.gSub (mBin PL.gSub (mVar 0) (mC (.int 1))) (mVar 4)) (moCons (mVar 3) (moNil))))) (sRet (mTup (aCons (mVar 3) (aCons (mVar 4) (aNil))))))))
theorem sat_cell_moved : ∀ ds n R RX, S_cell_moved ds n R RX → fnM 3 6 m_cell_moved ds n R fun _ _ _ => False := by
  rintro _ n R RX ⟨size, m, l, rfl, hl, m0, m8, hR⟩
  refine ⟨rfl, ?_⟩
  simp only [tupI] at *
  rcases hl with hl | hl
  · obtain ⟨a, rfl⟩ : ∃ a, l = [a] := by
      match l, hl with
      | [a], _ => exact ⟨a, rfl⟩
    simp only [startD, List.map_cons, List.map_nil, List.length_cons, List.length_nil, Nat.reduceAdd, Nat.reduceSub, List.replicate_succ, List.replicate_zero, List.cons_append, List.nil_append]; simp -implicitDefEqProofs [↓m_cell_moved, ↓lkK_0, ↓lkK_s, ↓stK_0, ↓stK_s, ↓x_var, ↓x_asg, ↓x_gtN, ↓stSK_c, ↓stSK_n, ↓x_par, ↓wpK_n, ↓wpK_c, ↓x_lc, ↓x_lc2, ↓x_lc2T, ↓x_app, ↓x_ext, ↓x_setI, ↓x_idxV, ↓x_lenV, ↓x_dget, ↓x_din, ↓x_dput, ↓atK_0, ↓atK_1, ↓atK_2, ↓atK_3, ↓atK_m1, ↓atK_m2, ↓atK_m3, ↓atK_m4, ↓x_idxl, ↓x_idxt, ↓x_idxs, ↓x_ret, ↓x_retN, ↓x_seq, ↓x_sif, ↓x_snil, ↓x_exp, ↓x_nev, ↓x_brk, ↓x_cnt, ↓x_sfor, ↓x_moNil, ↓x_moCons, ↓x_asgT, ↓x_gtT, ↓x_gtCons, ↓x_gtNil, ↓x_retV, ↓x_mov, ↓x_c, ↓x_bin, ↓x_un, ↓x_and, ↓x_or, ↓x_not, ↓x_ifE, ↓x_chain, ↓x_cb, ↓x_anil, ↓x_cons, ↓x_star, ↓x_tup, ↓x_lst, ↓x_dic0, ↓x_call, ↓x_callK, ↓x_yes, ↓x_toD, ↓x_toDo, ↓x_toB, ↓x_wT, ↓x_wF, ↓x_wD, ↓x_wN, ↓x_sub, ↓x_mul, ↓x_fdv, ↓x_mod, ↓x_pow, ↓x_lt, ↓x_le, ↓x_gt, ↓x_ge, ↓x_addi, ↓x_adds, ↓x_addt, ↓x_addl, ↓x_eqi, ↓x_nei, ↓x_eqs, ↓x_nes, ↓x_int, ↓x_nit, ↓x_inl, ↓x_nil, ↓x_isN, ↓x_notN, ↓x_neg, ↓x_lens, ↓x_lent, ↓x_lenl, ↓x_abs, ↓x_inti, ↓x_intb, ↓x_max, ↓x_min, ↓x_tofl, ↓x_toft, ↓x_lofl, ↓x_loft, ↓x_iseq, ↓x_sqt, ↓x_sql, ↓x_turn, ↓x_lstR1, ↓x_rg1, ↓x_rg2, ↓x_rgK, ↓x_rgK1, ↓x_rgK2, ↓x_isi_non_int, ↓x_isi_non_bool, ↓x_isi_non_str, ↓x_isi_non_tuple, ↓x_isi_non_list, ↓x_isi_bl_int, ↓x_isi_bl_bool, ↓x_isi_bl_str, ↓x_isi_bl_tuple, ↓x_isi_bl_list, ↓x_isi_int_int, ↓x_isi_int_bool, ↓x_isi_int_str, ↓x_isi_int_tuple, ↓x_isi_int_list, ↓x_isi_str_int, ↓x_isi_str_bool, ↓x_isi_str_str, ↓x_isi_str_tuple, ↓x_isi_str_list, ↓x_isi_tup_int, ↓x_isi_tup_bool, ↓x_isi_tup_str, ↓x_isi_tup_tuple, ↓x_isi_tup_list, ↓x_isi_lst_int, ↓x_isi_lst_bool, ↓x_isi_lst_str, ↓x_isi_lst_tuple, ↓x_isi_lst_list, ↓x_all, ↓x_any, ↓x_sum, ↓x_bln, ↓x_blc, ↓x_itn, ↓x_itc, x_wG, tyD, ↓x_pot0, ↓x_pot1, ↓x_pot2, ↓x_pset0, ↓x_pset2, ↓x_vK, ↓x_cutnn, ↓x_cutns, ↓x_cutsn, ↓x_cutl, ↓x_cutt, ↓x_kyi, ↓x_kys, ↓x_ops, ↓x_kin, ↓x_kidx, ↓x_bm, ↓x_kindl, ↓x_kinds, ↓x_eqb, ↓x_neb, KD_MOST_MOTION, K_QUARTERS]
    refine ⟨fun h => by simpa [ledL, h] using hR, fun h => by simpa [ledL, h] using hR⟩
  · obtain ⟨a, b, rfl⟩ : ∃ a b, l = [a, b] := by
      match l, hl with
      | [a, b], _ => exact ⟨a, b, rfl⟩
    have main : ∀ (x y : Int) (s5 : S), rotI (size - 1) (m % 4).toNat (x, y) = ledP m (size - 1) (a, b) → forL (gtN 5) (sParN [3, 4] (moCons (mBin PL.gSub (mBin PL.gSub (mVar 0) (mC (.int 1))) (mVar 4)) (moCons (mVar 3) moNil)))
        { nx := sRet (mTup (aCons (mVar 3) (aCons (mVar 4) aNil))) { nx := fun x n' => R (.dat .non) n', rt := fun s x n' => R s n', ex := fun _ _ _ => False }, rt := fun s x n' => R s n', ex := fun _ _ _ => False }
        (rngD 0 (m % 4)) [.dat (.int size), .dat (.int m), .dat (.tup [.int a, .int b]), .dat (.int x), .dat (.int y), s5] n := by
      intro x y s5 hxy
      refine forL_ind (fun ds ρ n' => ∃ x y s5, ρ = [.dat (.int size), .dat (.int m), .dat (.tup [.int a, .int b]), .dat (.int x), .dat (.int y), s5] ∧ n' = n ∧ rotI (size - 1) ds.length (x, y) = ledP m (size - 1) (a, b)) ?_ ?_ _ _ _ ⟨x, y, s5, rfl, rfl, by simpa [rngD] using hxy⟩
      · rintro ρ n' ⟨x, y, s5, rfl, rfl, h⟩
        have h' : (x, y) = ledP m (size - 1) (a, b) := h
        simp -implicitDefEqProofs [↓lkK_0, ↓lkK_s, ↓stK_0, ↓stK_s, ↓x_var, ↓x_asg, ↓x_gtN, ↓stSK_c, ↓stSK_n, ↓x_par, ↓wpK_n, ↓wpK_c, ↓x_lc, ↓x_lc2, ↓x_lc2T, ↓x_app, ↓x_ext, ↓x_setI, ↓x_idxV, ↓x_lenV, ↓x_dget, ↓x_din, ↓x_dput, ↓atK_0, ↓atK_1, ↓atK_2, ↓atK_3, ↓atK_m1, ↓atK_m2, ↓atK_m3, ↓atK_m4, ↓x_idxl, ↓x_idxt, ↓x_idxs, ↓x_ret, ↓x_retN, ↓x_seq, ↓x_sif, ↓x_snil, ↓x_exp, ↓x_nev, ↓x_brk, ↓x_cnt, ↓x_sfor, ↓x_moNil, ↓x_moCons, ↓x_asgT, ↓x_gtT, ↓x_gtCons, ↓x_gtNil, ↓x_retV, ↓x_mov, ↓x_c, ↓x_bin, ↓x_un, ↓x_and, ↓x_or, ↓x_not, ↓x_ifE, ↓x_chain, ↓x_cb, ↓x_anil, ↓x_cons, ↓x_star, ↓x_tup, ↓x_lst, ↓x_dic0, ↓x_call, ↓x_callK, ↓x_yes, ↓x_toD, ↓x_toDo, ↓x_toB, ↓x_wT, ↓x_wF, ↓x_wD, ↓x_wN, ↓x_sub, ↓x_mul, ↓x_fdv, ↓x_mod, ↓x_pow, ↓x_lt, ↓x_le, ↓x_gt, ↓x_ge, ↓x_addi, ↓x_adds, ↓x_addt, ↓x_addl, ↓x_eqi, ↓x_nei, ↓x_eqs, ↓x_nes, ↓x_int, ↓x_nit, ↓x_inl, ↓x_nil, ↓x_isN, ↓x_notN, ↓x_neg, ↓x_lens, ↓x_lent, ↓x_lenl, ↓x_abs, ↓x_inti, ↓x_intb, ↓x_max, ↓x_min, ↓x_tofl, ↓x_toft, ↓x_lofl, ↓x_loft, ↓x_iseq, ↓x_sqt, ↓x_sql, ↓x_turn, ↓x_lstR1, ↓x_rg1, ↓x_rg2, ↓x_rgK, ↓x_rgK1, ↓x_rgK2, ↓x_isi_non_int, ↓x_isi_non_bool, ↓x_isi_non_str, ↓x_isi_non_tuple, ↓x_isi_non_list, ↓x_isi_bl_int, ↓x_isi_bl_bool, ↓x_isi_bl_str, ↓x_isi_bl_tuple, ↓x_isi_bl_list, ↓x_isi_int_int, ↓x_isi_int_bool, ↓x_isi_int_str, ↓x_isi_int_tuple, ↓x_isi_int_list, ↓x_isi_str_int, ↓x_isi_str_bool, ↓x_isi_str_str, ↓x_isi_str_tuple, ↓x_isi_str_list, ↓x_isi_tup_int, ↓x_isi_tup_bool, ↓x_isi_tup_str, ↓x_isi_tup_tuple, ↓x_isi_tup_list, ↓x_isi_lst_int, ↓x_isi_lst_bool, ↓x_isi_lst_str, ↓x_isi_lst_tuple, ↓x_isi_lst_list, ↓x_all, ↓x_any, ↓x_sum, ↓x_bln, ↓x_blc, ↓x_itn, ↓x_itc, x_wG, tyD, ↓x_pot0, ↓x_pot1, ↓x_pot2, ↓x_pset0, ↓x_pset2, ↓x_vK, ↓x_cutnn, ↓x_cutns, ↓x_cutsn, ↓x_cutl, ↓x_cutt, ↓x_kyi, ↓x_kys, ↓x_ops, ↓x_kin, ↓x_kidx, ↓x_bm, ↓x_kindl, ↓x_kinds, ↓x_eqb, ↓x_neb, KD_MOST_MOTION, K_QUARTERS]
        simpa [ledL, ← h'] using hR
      · rintro d ds ρ n' K hK ⟨x, y, s5, rfl, rfl, h⟩
        simp -implicitDefEqProofs [↓lkK_0, ↓lkK_s, ↓stK_0, ↓stK_s, ↓x_var, ↓x_asg, ↓x_gtN, ↓stSK_c, ↓stSK_n, ↓x_par, ↓wpK_n, ↓wpK_c, ↓x_lc, ↓x_lc2, ↓x_lc2T, ↓x_app, ↓x_ext, ↓x_setI, ↓x_idxV, ↓x_lenV, ↓x_dget, ↓x_din, ↓x_dput, ↓atK_0, ↓atK_1, ↓atK_2, ↓atK_3, ↓atK_m1, ↓atK_m2, ↓atK_m3, ↓atK_m4, ↓x_idxl, ↓x_idxt, ↓x_idxs, ↓x_ret, ↓x_retN, ↓x_seq, ↓x_sif, ↓x_snil, ↓x_exp, ↓x_nev, ↓x_brk, ↓x_cnt, ↓x_sfor, ↓x_moNil, ↓x_moCons, ↓x_asgT, ↓x_gtT, ↓x_gtCons, ↓x_gtNil, ↓x_retV, ↓x_mov, ↓x_c, ↓x_bin, ↓x_un, ↓x_and, ↓x_or, ↓x_not, ↓x_ifE, ↓x_chain, ↓x_cb, ↓x_anil, ↓x_cons, ↓x_star, ↓x_tup, ↓x_lst, ↓x_dic0, ↓x_call, ↓x_callK, ↓x_yes, ↓x_toD, ↓x_toDo, ↓x_toB, ↓x_wT, ↓x_wF, ↓x_wD, ↓x_wN, ↓x_sub, ↓x_mul, ↓x_fdv, ↓x_mod, ↓x_pow, ↓x_lt, ↓x_le, ↓x_gt, ↓x_ge, ↓x_addi, ↓x_adds, ↓x_addt, ↓x_addl, ↓x_eqi, ↓x_nei, ↓x_eqs, ↓x_nes, ↓x_int, ↓x_nit, ↓x_inl, ↓x_nil, ↓x_isN, ↓x_notN, ↓x_neg, ↓x_lens, ↓x_lent, ↓x_lenl, ↓x_abs, ↓x_inti, ↓x_intb, ↓x_max, ↓x_min, ↓x_tofl, ↓x_toft, ↓x_lofl, ↓x_loft, ↓x_iseq, ↓x_sqt, ↓x_sql, ↓x_turn, ↓x_lstR1, ↓x_rg1, ↓x_rg2, ↓x_rgK, ↓x_rgK1, ↓x_rgK2, ↓x_isi_non_int, ↓x_isi_non_bool, ↓x_isi_non_str, ↓x_isi_non_tuple, ↓x_isi_non_list, ↓x_isi_bl_int, ↓x_isi_bl_bool, ↓x_isi_bl_str, ↓x_isi_bl_tuple, ↓x_isi_bl_list, ↓x_isi_int_int, ↓x_isi_int_bool, ↓x_isi_int_str, ↓x_isi_int_tuple, ↓x_isi_int_list, ↓x_isi_str_int, ↓x_isi_str_bool, ↓x_isi_str_str, ↓x_isi_str_tuple, ↓x_isi_str_list, ↓x_isi_tup_int, ↓x_isi_tup_bool, ↓x_isi_tup_str, ↓x_isi_tup_tuple, ↓x_isi_tup_list, ↓x_isi_lst_int, ↓x_isi_lst_bool, ↓x_isi_lst_str, ↓x_isi_lst_tuple, ↓x_isi_lst_list, ↓x_all, ↓x_any, ↓x_sum, ↓x_bln, ↓x_blc, ↓x_itn, ↓x_itc, x_wG, tyD, ↓x_pot0, ↓x_pot1, ↓x_pot2, ↓x_pset0, ↓x_pset2, ↓x_vK, ↓x_cutnn, ↓x_cutns, ↓x_cutsn, ↓x_cutl, ↓x_cutt, ↓x_kyi, ↓x_kys, ↓x_ops, ↓x_kin, ↓x_kidx, ↓x_bm, ↓x_kindl, ↓x_kinds, ↓x_eqb, ↓x_neb, KD_MOST_MOTION, K_QUARTERS]
        exact hK _ _ ⟨_, _, _, rfl, rfl, h⟩
    simp only [startD, List.map_cons, List.map_nil, List.length_cons, List.length_nil, Nat.reduceAdd, Nat.reduceSub, List.replicate_succ, List.replicate_zero, List.cons_append, List.nil_append]; simp -implicitDefEqProofs [↓m_cell_moved, ↓lkK_0, ↓lkK_s, ↓stK_0, ↓stK_s, ↓x_var, ↓x_asg, ↓x_gtN, ↓stSK_c, ↓stSK_n, ↓x_par, ↓wpK_n, ↓wpK_c, ↓x_lc, ↓x_lc2, ↓x_lc2T, ↓x_app, ↓x_ext, ↓x_setI, ↓x_idxV, ↓x_lenV, ↓x_dget, ↓x_din, ↓x_dput, ↓atK_0, ↓atK_1, ↓atK_2, ↓atK_3, ↓atK_m1, ↓atK_m2, ↓atK_m3, ↓atK_m4, ↓x_idxl, ↓x_idxt, ↓x_idxs, ↓x_ret, ↓x_retN, ↓x_seq, ↓x_sif, ↓x_snil, ↓x_exp, ↓x_nev, ↓x_brk, ↓x_cnt, ↓x_sfor, ↓x_moNil, ↓x_moCons, ↓x_asgT, ↓x_gtT, ↓x_gtCons, ↓x_gtNil, ↓x_retV, ↓x_mov, ↓x_c, ↓x_bin, ↓x_un, ↓x_and, ↓x_or, ↓x_not, ↓x_ifE, ↓x_chain, ↓x_cb, ↓x_anil, ↓x_cons, ↓x_star, ↓x_tup, ↓x_lst, ↓x_dic0, ↓x_call, ↓x_callK, ↓x_yes, ↓x_toD, ↓x_toDo, ↓x_toB, ↓x_wT, ↓x_wF, ↓x_wD, ↓x_wN, ↓x_sub, ↓x_mul, ↓x_fdv, ↓x_mod, ↓x_pow, ↓x_lt, ↓x_le, ↓x_gt, ↓x_ge, ↓x_addi, ↓x_adds, ↓x_addt, ↓x_addl, ↓x_eqi, ↓x_nei, ↓x_eqs, ↓x_nes, ↓x_int, ↓x_nit, ↓x_inl, ↓x_nil, ↓x_isN, ↓x_notN, ↓x_neg, ↓x_lens, ↓x_lent, ↓x_lenl, ↓x_abs, ↓x_inti, ↓x_intb, ↓x_max, ↓x_min, ↓x_tofl, ↓x_toft, ↓x_lofl, ↓x_loft, ↓x_iseq, ↓x_sqt, ↓x_sql, ↓x_turn, ↓x_lstR1, ↓x_rg1, ↓x_rg2, ↓x_rgK, ↓x_rgK1, ↓x_rgK2, ↓x_isi_non_int, ↓x_isi_non_bool, ↓x_isi_non_str, ↓x_isi_non_tuple, ↓x_isi_non_list, ↓x_isi_bl_int, ↓x_isi_bl_bool, ↓x_isi_bl_str, ↓x_isi_bl_tuple, ↓x_isi_bl_list, ↓x_isi_int_int, ↓x_isi_int_bool, ↓x_isi_int_str, ↓x_isi_int_tuple, ↓x_isi_int_list, ↓x_isi_str_int, ↓x_isi_str_bool, ↓x_isi_str_str, ↓x_isi_str_tuple, ↓x_isi_str_list, ↓x_isi_tup_int, ↓x_isi_tup_bool, ↓x_isi_tup_str, ↓x_isi_tup_tuple, ↓x_isi_tup_list, ↓x_isi_lst_int, ↓x_isi_lst_bool, ↓x_isi_lst_str, ↓x_isi_lst_tuple, ↓x_isi_lst_list, ↓x_all, ↓x_any, ↓x_sum, ↓x_bln, ↓x_blc, ↓x_itn, ↓x_itc, x_wG, tyD, ↓x_pot0, ↓x_pot1, ↓x_pot2, ↓x_pset0, ↓x_pset2, ↓x_vK, ↓x_cutnn, ↓x_cutns, ↓x_cutsn, ↓x_cutl, ↓x_cutt, ↓x_kyi, ↓x_kys, ↓x_ops, ↓x_kin, ↓x_kidx, ↓x_bm, ↓x_kindl, ↓x_kinds, ↓x_eqb, ↓x_neb, KD_MOST_MOTION, K_QUARTERS]
    refine ⟨fun h => ⟨by omega, by omega, main _ _ _ (by simp [ledP, h])⟩, fun h => ⟨by omega, by omega, main _ _ _ (by simp [ledP, show ¬ 4 ≤ m by omega])⟩⟩

def S_joint_motion : SpD := fun ds n R _ => match ds with
  | [.int s, .int a, .int b] => (s = 1 ∨ s = 2) ∧ 0 ≤ a ∧ a ≤ mostM s ∧ 0 ≤ b ∧ b ≤ mostM s ∧ R (.dat (.int (mjI s a b))) n
  | _ => False

def m_joint_motion : MS := sSeq (sExp (mCall S_check_sides (aCons (mVar 0) (aNil)))) (sSeq (sExp (mCall S_check_motion (aCons (mVar 0) (aCons (mVar 1) (aNil))))) (sSeq (sExp (mCall S_check_motion (aCons (mVar 0) (aCons (mVar 2) (aNil))))) (sRet (mCall S_motions_joined (aCons (mVar 0) (aCons (mVar 1) (aCons (mVar 2) (aNil))))))))
theorem sat_joint_motion : ∀ ds n R RX, S_joint_motion ds n R RX → fnM 3 3 m_joint_motion ds n R fun _ _ _ => False := by
  intro ds n R RX h
  unfold S_joint_motion at h
  split at h
  · rename_i s a b
    obtain ⟨hs, a0, a1, b0, b1, hR⟩ := h
    refine ⟨rfl, ?_⟩
    simp only [startD, List.map_cons, List.map_nil, List.length_cons, List.length_nil, Nat.reduceAdd, Nat.reduceSub, List.replicate_succ, List.replicate_zero, List.cons_append, List.nil_append]; simp -implicitDefEqProofs [↓m_joint_motion, ↓S_check_sides, ↓S_check_motion, ↓S_motions_joined, ↓lkK_0, ↓lkK_s, ↓stK_0, ↓stK_s, ↓x_var, ↓x_asg, ↓x_gtN, ↓stSK_c, ↓stSK_n, ↓x_par, ↓wpK_n, ↓wpK_c, ↓x_lc, ↓x_lc2, ↓x_lc2T, ↓x_app, ↓x_ext, ↓x_setI, ↓x_idxV, ↓x_lenV, ↓x_dget, ↓x_din, ↓x_dput, ↓atK_0, ↓atK_1, ↓atK_2, ↓atK_3, ↓atK_m1, ↓atK_m2, ↓atK_m3, ↓atK_m4, ↓x_idxl, ↓x_idxt, ↓x_idxs, ↓x_ret, ↓x_retN, ↓x_seq, ↓x_sif, ↓x_snil, ↓x_exp, ↓x_nev, ↓x_brk, ↓x_cnt, ↓x_sfor, ↓x_moNil, ↓x_moCons, ↓x_asgT, ↓x_gtT, ↓x_gtCons, ↓x_gtNil, ↓x_retV, ↓x_mov, ↓x_c, ↓x_bin, ↓x_un, ↓x_and, ↓x_or, ↓x_not, ↓x_ifE, ↓x_chain, ↓x_cb, ↓x_anil, ↓x_cons, ↓x_star, ↓x_tup, ↓x_lst, ↓x_dic0, ↓x_call, ↓x_callK, ↓x_yes, ↓x_toD, ↓x_toDo, ↓x_toB, ↓x_wT, ↓x_wF, ↓x_wD, ↓x_wN, ↓x_sub, ↓x_mul, ↓x_fdv, ↓x_mod, ↓x_pow, ↓x_lt, ↓x_le, ↓x_gt, ↓x_ge, ↓x_addi, ↓x_adds, ↓x_addt, ↓x_addl, ↓x_eqi, ↓x_nei, ↓x_eqs, ↓x_nes, ↓x_int, ↓x_nit, ↓x_inl, ↓x_nil, ↓x_isN, ↓x_notN, ↓x_neg, ↓x_lens, ↓x_lent, ↓x_lenl, ↓x_abs, ↓x_inti, ↓x_intb, ↓x_max, ↓x_min, ↓x_tofl, ↓x_toft, ↓x_lofl, ↓x_loft, ↓x_iseq, ↓x_sqt, ↓x_sql, ↓x_turn, ↓x_lstR1, ↓x_rg1, ↓x_rg2, ↓x_rgK, ↓x_rgK1, ↓x_rgK2, ↓x_isi_non_int, ↓x_isi_non_bool, ↓x_isi_non_str, ↓x_isi_non_tuple, ↓x_isi_non_list, ↓x_isi_bl_int, ↓x_isi_bl_bool, ↓x_isi_bl_str, ↓x_isi_bl_tuple, ↓x_isi_bl_list, ↓x_isi_int_int, ↓x_isi_int_bool, ↓x_isi_int_str, ↓x_isi_int_tuple, ↓x_isi_int_list, ↓x_isi_str_int, ↓x_isi_str_bool, ↓x_isi_str_str, ↓x_isi_str_tuple, ↓x_isi_str_list, ↓x_isi_tup_int, ↓x_isi_tup_bool, ↓x_isi_tup_str, ↓x_isi_tup_tuple, ↓x_isi_tup_list, ↓x_isi_lst_int, ↓x_isi_lst_bool, ↓x_isi_lst_str, ↓x_isi_lst_tuple, ↓x_isi_lst_list, ↓x_all, ↓x_any, ↓x_sum, ↓x_bln, ↓x_blc, ↓x_itn, ↓x_itc, x_wG, tyD, ↓x_pot0, ↓x_pot1, ↓x_pot2, ↓x_pset0, ↓x_pset2, ↓x_vK, ↓x_cutnn, ↓x_cutns, ↓x_cutsn, ↓x_cutl, ↓x_cutt, ↓x_kyi, ↓x_kys, ↓x_ops, ↓x_kin, ↓x_kidx, ↓x_bm, ↓x_kindl, ↓x_kinds, ↓x_eqb, ↓x_neb, KD_MOST_MOTION, K_QUARTERS]
    exact ⟨hs, a0, a1, hs, b0, b1, hR⟩
  · exact h.elim

def bmI (s a : Int) : Int := if s = 2 ∧ a < 4 then (4 - a) % 4 else a
def S_back_motion : SpD := fun ds n R _ => match ds with
  | [.int s, .int a] => (s = 1 ∨ s = 2) ∧ 0 ≤ a ∧ a ≤ mostM s ∧ R (.dat (.int (bmI s a))) n
  | _ => False

def m_back_motion : MS := sSeq (sExp (mCall S_check_sides (aCons (mVar 0) (aNil)))) (sSeq (sExp (mCall S_check_motion (aCons (mVar 0) (aCons (mVar 1) (aNil))))) (sRet (mIfE (mAnd (mBin (gEq false) (mVar 0) (mC (.int 2))) (mBin gLt (mVar 1) (mC K_QUARTERS))) (mBin gMod (mBin PL.gSub (mC K_QUARTERS) (mVar 1)) (mC K_QUARTERS)) (mVar 1))))
theorem sat_back_motion : ∀ ds n R RX, S_back_motion ds n R RX → fnM 2 2 m_back_motion ds n R fun _ _ _ => False := by
  intro ds n R RX h
  unfold S_back_motion at h
  split at h
  · rename_i s a
    obtain ⟨hs, a0, a1, hR⟩ := h
    refine ⟨rfl, ?_⟩
    have key : ∀ v : Int, v = bmI s a → R (.dat (.int v)) n := fun v e => e ▸ hR
    simp only [startD, List.map_cons, List.map_nil, List.length_cons, List.length_nil, Nat.reduceAdd, Nat.reduceSub, List.replicate_succ, List.replicate_zero, List.cons_append, List.nil_append]; simp -implicitDefEqProofs [↓m_back_motion, ↓S_check_sides, ↓S_check_motion, ↓lkK_0, ↓lkK_s, ↓stK_0, ↓stK_s, ↓x_var, ↓x_asg, ↓x_gtN, ↓stSK_c, ↓stSK_n, ↓x_par, ↓wpK_n, ↓wpK_c, ↓x_lc, ↓x_lc2, ↓x_lc2T, ↓x_app, ↓x_ext, ↓x_setI, ↓x_idxV, ↓x_lenV, ↓x_dget, ↓x_din, ↓x_dput, ↓atK_0, ↓atK_1, ↓atK_2, ↓atK_3, ↓atK_m1, ↓atK_m2, ↓atK_m3, ↓atK_m4, ↓x_idxl, ↓x_idxt, ↓x_idxs, ↓x_ret, ↓x_retN, ↓x_seq, ↓x_sif, ↓x_snil, ↓x_exp, ↓x_nev, ↓x_brk, ↓x_cnt, ↓x_sfor, ↓x_moNil, ↓x_moCons, ↓x_asgT, ↓x_gtT, ↓x_gtCons, ↓x_gtNil, ↓x_retV, ↓x_mov, ↓x_c, ↓x_bin, ↓x_un, ↓x_and, ↓x_or, ↓x_not, ↓x_ifE, ↓x_chain, ↓x_cb, ↓x_anil, ↓x_cons, ↓x_star, ↓x_tup, ↓x_lst, ↓x_dic0, ↓x_call, ↓x_callK, ↓x_yes, ↓x_toD, ↓x_toDo, ↓x_toB, ↓x_wT, ↓x_wF, ↓x_wD, ↓x_wN, ↓x_sub, ↓x_mul, ↓x_fdv, ↓x_mod, ↓x_pow, ↓x_lt, ↓x_le, ↓x_gt, ↓x_ge, ↓x_addi, ↓x_adds, ↓x_addt, ↓x_addl, ↓x_eqi, ↓x_nei, ↓x_eqs, ↓x_nes, ↓x_int, ↓x_nit, ↓x_inl, ↓x_nil, ↓x_isN, ↓x_notN, ↓x_neg, ↓x_lens, ↓x_lent, ↓x_lenl, ↓x_abs, ↓x_inti, ↓x_intb, ↓x_max, ↓x_min, ↓x_tofl, ↓x_toft, ↓x_lofl, ↓x_loft, ↓x_iseq, ↓x_sqt, ↓x_sql, ↓x_turn, ↓x_lstR1, ↓x_rg1, ↓x_rg2, ↓x_rgK, ↓x_rgK1, ↓x_rgK2, ↓x_isi_non_int, ↓x_isi_non_bool, ↓x_isi_non_str, ↓x_isi_non_tuple, ↓x_isi_non_list, ↓x_isi_bl_int, ↓x_isi_bl_bool, ↓x_isi_bl_str, ↓x_isi_bl_tuple, ↓x_isi_bl_list, ↓x_isi_int_int, ↓x_isi_int_bool, ↓x_isi_int_str, ↓x_isi_int_tuple, ↓x_isi_int_list, ↓x_isi_str_int, ↓x_isi_str_bool, ↓x_isi_str_str, ↓x_isi_str_tuple, ↓x_isi_str_list, ↓x_isi_tup_int, ↓x_isi_tup_bool, ↓x_isi_tup_str, ↓x_isi_tup_tuple, ↓x_isi_tup_list, ↓x_isi_lst_int, ↓x_isi_lst_bool, ↓x_isi_lst_str, ↓x_isi_lst_tuple, ↓x_isi_lst_list, ↓x_all, ↓x_any, ↓x_sum, ↓x_bln, ↓x_blc, ↓x_itn, ↓x_itc, x_wG, tyD, ↓x_pot0, ↓x_pot1, ↓x_pot2, ↓x_pset0, ↓x_pset2, ↓x_vK, ↓x_cutnn, ↓x_cutns, ↓x_cutsn, ↓x_cutl, ↓x_cutt, ↓x_kyi, ↓x_kys, ↓x_ops, ↓x_kin, ↓x_kidx, ↓x_bm, ↓x_kindl, ↓x_kinds, ↓x_eqb, ↓x_neb, KD_MOST_MOTION, K_QUARTERS]
    refine ⟨hs, a0, a1, fun h2 => ⟨fun h4 => key _ ?_, fun h4 => key _ ?_⟩, fun h2 => key _ ?_⟩ <;> (unfold bmI; (repeat' split) <;> omega)
  · exact h.elim

def S_less_from_one : SpD := fun ds n R _ => match ds with
  | [.tup [.int a, .int b]] => R (.dat (.tup [.int (b - a), .int b])) n
  | _ => False

def m_less_from_one : MS := sRet (mTup (aCons (mBin PL.gSub (mBin gIdx (mVar 0) (mC (.int 1))) (mBin gIdx (mVar 0) (mC (.int 0)))) (aCons (mBin gIdx (mVar 0) (mC (.int 1))) (aNil))))
theorem sat_less_from_one : ∀ ds n R RX, S_less_from_one ds n R RX → fnM 1 1 m_less_from_one ds n R fun _ _ _ => False := by
  intro ds n R RX h
  unfold S_less_from_one at h
  split at h
  · refine ⟨rfl, ?_⟩
    simp only [startD, List.map_cons, List.map_nil, List.length_cons, List.length_nil, Nat.reduceAdd, Nat.reduceSub, List.replicate_succ, List.replicate_zero, List.cons_append, List.nil_append]; simp -implicitDefEqProofs [↓m_less_from_one, ↓lkK_0, ↓lkK_s, ↓stK_0, ↓stK_s, ↓x_var, ↓x_asg, ↓x_gtN, ↓stSK_c, ↓stSK_n, ↓x_par, ↓wpK_n, ↓wpK_c, ↓x_lc, ↓x_lc2, ↓x_lc2T, ↓x_app, ↓x_ext, ↓x_setI, ↓x_idxV, ↓x_lenV, ↓x_dget, ↓x_din, ↓x_dput, ↓atK_0, ↓atK_1, ↓atK_2, ↓atK_3, ↓atK_m1, ↓atK_m2, ↓atK_m3, ↓atK_m4, ↓x_idxl, ↓x_idxt, ↓x_idxs, ↓x_ret, ↓x_retN, ↓x_seq, ↓x_sif, ↓x_snil, ↓x_exp, ↓x_nev, ↓x_brk, ↓x_cnt, ↓x_sfor, ↓x_moNil, ↓x_moCons, ↓x_asgT, ↓x_gtT, ↓x_gtCons, ↓x_gtNil, ↓x_retV, ↓x_mov, ↓x_c, ↓x_bin, ↓x_un, ↓x_and, ↓x_or, ↓x_not, ↓x_ifE, ↓x_chain, ↓x_cb, ↓x_anil, ↓x_cons, ↓x_star, ↓x_tup, ↓x_lst, ↓x_dic0, ↓x_call, ↓x_callK, ↓x_yes, ↓x_toD, ↓x_toDo, ↓x_toB, ↓x_wT, ↓x_wF, ↓x_wD, ↓x_wN, ↓x_sub, ↓x_mul, ↓x_fdv, ↓x_mod, ↓x_pow, ↓x_lt, ↓x_le, ↓x_gt, ↓x_ge, ↓x_addi, ↓x_adds, ↓x_addt, ↓x_addl, ↓x_eqi, ↓x_nei, ↓x_eqs, ↓x_nes, ↓x_int, ↓x_nit, ↓x_inl, ↓x_nil, ↓x_isN, ↓x_notN, ↓x_neg, ↓x_lens, ↓x_lent, ↓x_lenl, ↓x_abs, ↓x_inti, ↓x_intb, ↓x_max, ↓x_min, ↓x_tofl, ↓x_toft, ↓x_lofl, ↓x_loft, ↓x_iseq, ↓x_sqt, ↓x_sql, ↓x_turn, ↓x_lstR1, ↓x_rg1, ↓x_rg2, ↓x_rgK, ↓x_rgK1, ↓x_rgK2, ↓x_isi_non_int, ↓x_isi_non_bool, ↓x_isi_non_str, ↓x_isi_non_tuple, ↓x_isi_non_list, ↓x_isi_bl_int, ↓x_isi_bl_bool, ↓x_isi_bl_str, ↓x_isi_bl_tuple, ↓x_isi_bl_list, ↓x_isi_int_int, ↓x_isi_int_bool, ↓x_isi_int_str, ↓x_isi_int_tuple, ↓x_isi_int_list, ↓x_isi_str_int, ↓x_isi_str_bool, ↓x_isi_str_str, ↓x_isi_str_tuple, ↓x_isi_str_list, ↓x_isi_tup_int, ↓x_isi_tup_bool, ↓x_isi_tup_str, ↓x_isi_tup_tuple, ↓x_isi_tup_list, ↓x_isi_lst_int, ↓x_isi_lst_bool, ↓x_isi_lst_str, ↓x_isi_lst_tuple, ↓x_isi_lst_list, ↓x_all, ↓x_any, ↓x_sum, ↓x_bln, ↓x_blc, ↓x_itn, ↓x_itc, x_wG, tyD, ↓x_pot0, ↓x_pot1, ↓x_pot2, ↓x_pset0, ↓x_pset2, ↓x_vK, ↓x_cutnn, ↓x_cutns, ↓x_cutsn, ↓x_cutl, ↓x_cutt, ↓x_kyi, ↓x_kys, ↓x_ops, ↓x_kin, ↓x_kidx, ↓x_bm, ↓x_kindl, ↓x_kinds, ↓x_eqb, ↓x_neb, KD_MOST_MOTION, K_QUARTERS]
    exact h
  · exact h.elim

def frD (p : Int × Int) : D := .tup [.int p.1, .int p.2]
/-- a fraction from nothing to one, in lowest terms -/
def Fr01 (p : Int × Int) : Prop := 0 ≤ p.1 ∧ p.1 ≤ p.2 ∧ 1 ≤ p.2 ∧ Int.gcd p.1 p.2 = 1
def S_is_share_tuple : SpD := fun ds n R _ => ∃ (s : Int) (ps : List (Int × Int)), ds = [.int s, .tup (ps.map frD)] ∧ (ps.length : Int) = s ∧ ps.length ≤ 1000 ∧ (∀ p ∈ ps, Fr01 p) ∧ R (.dat (.bl true)) n

def m_is_share_tuple : MS := sSeq (sIf (mOr (mNot (mCB gIsi (aCons (mVar 1) (aCons (mC (.ty "tuple")) (aNil))))) (mOr (mBin (gEq true) (mCB gLen (aCons (mVar 1) (aNil))) (mVar 0)) (mNot (mCB gAll (aCons (mLc (iSeq (mVar 1)) (gtN 2) (mYes) (mCall S_is_fraction (aCons (mVar 2) (aNil))) [2]) (aNil)))))) (sRet (mC (.bl false))) (sNil)) (sRet (mCB gAll (aCons (mLc (iSeq (mVar 1)) (gtT 2 (gtCons (gtN 3) (gtCons (gtN 4) (gtNil)))) (mYes) (mChain gLe gLe (mC (.int 0)) (mVar 3) (mVar 4)) [3, 4]) (aNil))))
theorem sat_is_share_tuple : ∀ ds n R RX, S_is_share_tuple ds n R RX → fnM 2 5 m_is_share_tuple ds n R fun _ _ _ => False := by
  rintro _ n R RX ⟨s, ps, rfl, hl, hl2, hp, hR⟩
  refine ⟨rfl, ?_⟩
  simp only [startD, List.map_cons, List.map_nil, List.length_cons, List.length_nil, Nat.reduceAdd, Nat.reduceSub, List.replicate_succ, List.replicate_zero, List.cons_append, List.nil_append]; simp -implicitDefEqProofs [↓m_is_share_tuple, hl, ↓lkK_0, ↓lkK_s, ↓stK_0, ↓stK_s, ↓x_var, ↓x_asg, ↓x_gtN, ↓stSK_c, ↓stSK_n, ↓x_par, ↓wpK_n, ↓wpK_c, ↓x_lc, ↓x_lc2, ↓x_lc2T, ↓x_app, ↓x_ext, ↓x_setI, ↓x_idxV, ↓x_lenV, ↓x_dget, ↓x_din, ↓x_dput, ↓atK_0, ↓atK_1, ↓atK_2, ↓atK_3, ↓atK_m1, ↓atK_m2, ↓atK_m3, ↓atK_m4, ↓x_idxl, ↓x_idxt, ↓x_idxs, ↓x_ret, ↓x_retN, ↓x_seq, ↓x_sif, ↓x_snil, ↓x_exp, ↓x_nev, ↓x_brk, ↓x_cnt, ↓x_sfor, ↓x_moNil, ↓x_moCons, ↓x_asgT, ↓x_gtT, ↓x_gtCons, ↓x_gtNil, ↓x_retV, ↓x_mov, ↓x_c, ↓x_bin, ↓x_un, ↓x_and, ↓x_or, ↓x_not, ↓x_ifE, ↓x_chain, ↓x_cb, ↓x_anil, ↓x_cons, ↓x_star, ↓x_tup, ↓x_lst, ↓x_dic0, ↓x_call, ↓x_callK, ↓x_yes, ↓x_toD, ↓x_toDo, ↓x_toB, ↓x_wT, ↓x_wF, ↓x_wD, ↓x_wN, ↓x_sub, ↓x_mul, ↓x_fdv, ↓x_mod, ↓x_pow, ↓x_lt, ↓x_le, ↓x_gt, ↓x_ge, ↓x_addi, ↓x_adds, ↓x_addt, ↓x_addl, ↓x_eqi, ↓x_nei, ↓x_eqs, ↓x_nes, ↓x_int, ↓x_nit, ↓x_inl, ↓x_nil, ↓x_isN, ↓x_notN, ↓x_neg, ↓x_lens, ↓x_lent, ↓x_lenl, ↓x_abs, ↓x_inti, ↓x_intb, ↓x_max, ↓x_min, ↓x_tofl, ↓x_toft, ↓x_lofl, ↓x_loft, ↓x_iseq, ↓x_sqt, ↓x_sql, ↓x_turn, ↓x_lstR1, ↓x_rg1, ↓x_rg2, ↓x_rgK, ↓x_rgK1, ↓x_rgK2, ↓x_isi_non_int, ↓x_isi_non_bool, ↓x_isi_non_str, ↓x_isi_non_tuple, ↓x_isi_non_list, ↓x_isi_bl_int, ↓x_isi_bl_bool, ↓x_isi_bl_str, ↓x_isi_bl_tuple, ↓x_isi_bl_list, ↓x_isi_int_int, ↓x_isi_int_bool, ↓x_isi_int_str, ↓x_isi_int_tuple, ↓x_isi_int_list, ↓x_isi_str_int, ↓x_isi_str_bool, ↓x_isi_str_str, ↓x_isi_str_tuple, ↓x_isi_str_list, ↓x_isi_tup_int, ↓x_isi_tup_bool, ↓x_isi_tup_str, ↓x_isi_tup_tuple, ↓x_isi_tup_list, ↓x_isi_lst_int, ↓x_isi_lst_bool, ↓x_isi_lst_str, ↓x_isi_lst_tuple, ↓x_isi_lst_list, ↓x_all, ↓x_any, ↓x_sum, ↓x_bln, ↓x_blc, ↓x_itn, ↓x_itc, x_wG, tyD, ↓x_pot0, ↓x_pot1, ↓x_pot2, ↓x_pset0, ↓x_pset2, ↓x_vK, ↓x_cutnn, ↓x_cutns, ↓x_cutsn, ↓x_cutl, ↓x_cutt, ↓x_kyi, ↓x_kys, ↓x_ops, ↓x_kin, ↓x_kidx, ↓x_bm, ↓x_kindl, ↓x_kinds, ↓x_eqb, ↓x_neb, KD_MOST_MOTION, K_QUARTERS]
  refine lcL_all (fun _ => .bl true) (fun d hd acc m K ha hK => ?_) n (by simp; omega) ?_
  · obtain ⟨p, h, rfl⟩ := List.mem_map.mp hd
    obtain ⟨p1, p2, p3, p4⟩ := hp p h
    have hf : isFr (.tup [.int p.1, .int p.2]) = true := by simp [isFr]; omega
    simp -implicitDefEqProofs [↓S_is_fraction, frD, hf, typD, ↓lkK_0, ↓lkK_s, ↓stK_0, ↓stK_s, ↓x_var, ↓x_asg, ↓x_gtN, ↓stSK_c, ↓stSK_n, ↓x_par, ↓wpK_n, ↓wpK_c, ↓x_lc, ↓x_lc2, ↓x_lc2T, ↓x_app, ↓x_ext, ↓x_setI, ↓x_idxV, ↓x_lenV, ↓x_dget, ↓x_din, ↓x_dput, ↓atK_0, ↓atK_1, ↓atK_2, ↓atK_3, ↓atK_m1, ↓atK_m2, ↓atK_m3, ↓atK_m4, ↓x_idxl, ↓x_idxt, ↓x_idxs, ↓x_ret, ↓x_retN, ↓x_seq, ↓x_sif, ↓x_snil, ↓x_exp, ↓x_nev, ↓x_brk, ↓x_cnt, ↓x_sfor, ↓x_moNil, ↓x_moCons, ↓x_asgT, ↓x_gtT, ↓x_gtCons, ↓x_gtNil, ↓x_retV, ↓x_mov, ↓x_c, ↓x_bin, ↓x_un, ↓x_and, ↓x_or, ↓x_not, ↓x_ifE, ↓x_chain, ↓x_cb, ↓x_anil, ↓x_cons, ↓x_star, ↓x_tup, ↓x_lst, ↓x_dic0, ↓x_call, ↓x_callK, ↓x_yes, ↓x_toD, ↓x_toDo, ↓x_toB, ↓x_wT, ↓x_wF, ↓x_wD, ↓x_wN, ↓x_sub, ↓x_mul, ↓x_fdv, ↓x_mod, ↓x_pow, ↓x_lt, ↓x_le, ↓x_gt, ↓x_ge, ↓x_addi, ↓x_adds, ↓x_addt, ↓x_addl, ↓x_eqi, ↓x_nei, ↓x_eqs, ↓x_nes, ↓x_int, ↓x_nit, ↓x_inl, ↓x_nil, ↓x_isN, ↓x_notN, ↓x_neg, ↓x_lens, ↓x_lent, ↓x_lenl, ↓x_abs, ↓x_inti, ↓x_intb, ↓x_max, ↓x_min, ↓x_tofl, ↓x_toft, ↓x_lofl, ↓x_loft, ↓x_iseq, ↓x_sqt, ↓x_sql, ↓x_turn, ↓x_lstR1, ↓x_rg1, ↓x_rg2, ↓x_rgK, ↓x_rgK1, ↓x_rgK2, ↓x_isi_non_int, ↓x_isi_non_bool, ↓x_isi_non_str, ↓x_isi_non_tuple, ↓x_isi_non_list, ↓x_isi_bl_int, ↓x_isi_bl_bool, ↓x_isi_bl_str, ↓x_isi_bl_tuple, ↓x_isi_bl_list, ↓x_isi_int_int, ↓x_isi_int_bool, ↓x_isi_int_str, ↓x_isi_int_tuple, ↓x_isi_int_list, ↓x_isi_str_int, ↓x_isi_str_bool, ↓x_isi_str_str, ↓x_isi_str_tuple, ↓x_isi_str_list, ↓x_isi_tup_int, ↓x_isi_tup_bool, ↓x_isi_tup_str, ↓x_isi_tup_tuple, ↓x_isi_tup_list, ↓x_isi_lst_int, ↓x_isi_lst_bool, ↓x_isi_lst_str, ↓x_isi_lst_tuple, ↓x_isi_lst_list, ↓x_all, ↓x_any, ↓x_sum, ↓x_bln, ↓x_blc, ↓x_itn, ↓x_itc, x_wG, tyD, ↓x_pot0, ↓x_pot1, ↓x_pot2, ↓x_pset0, ↓x_pset2, ↓x_vK, ↓x_cutnn, ↓x_cutns, ↓x_cutsn, ↓x_cutl, ↓x_cutt, ↓x_kyi, ↓x_kys, ↓x_ops, ↓x_kin, ↓x_kidx, ↓x_bm, ↓x_kindl, ↓x_kinds, ↓x_eqb, ↓x_neb, KD_MOST_MOTION, K_QUARTERS]
    exact ⟨ha, hK⟩
  · rw [blK_map (fun _ => true)]
    refine ⟨fun _ => ?_, fun z => absurd z (by simp)⟩
    refine lcL_all (fun _ => .bl true) (fun d hd acc m K ha hK => ?_) n (by simp; omega) ?_
    · obtain ⟨p, h, rfl⟩ := List.mem_map.mp hd
      obtain ⟨p1, p2, p3, p4⟩ := hp p h
      simp -implicitDefEqProofs [frD, ↓lkK_0, ↓lkK_s, ↓stK_0, ↓stK_s, ↓x_var, ↓x_asg, ↓x_gtN, ↓stSK_c, ↓stSK_n, ↓x_par, ↓wpK_n, ↓wpK_c, ↓x_lc, ↓x_lc2, ↓x_lc2T, ↓x_app, ↓x_ext, ↓x_setI, ↓x_idxV, ↓x_lenV, ↓x_dget, ↓x_din, ↓x_dput, ↓atK_0, ↓atK_1, ↓atK_2, ↓atK_3, ↓atK_m1, ↓atK_m2, ↓atK_m3, ↓atK_m4, ↓x_idxl, ↓x_idxt, ↓x_idxs, ↓x_ret, ↓x_retN, ↓x_seq, ↓x_sif, ↓x_snil, ↓x_exp, ↓x_nev, ↓x_brk, ↓x_cnt, ↓x_sfor, ↓x_moNil, ↓x_moCons, ↓x_asgT, ↓x_gtT, ↓x_gtCons, ↓x_gtNil, ↓x_retV, ↓x_mov, ↓x_c, ↓x_bin, ↓x_un, ↓x_and, ↓x_or, ↓x_not, ↓x_ifE, ↓x_chain, ↓x_cb, ↓x_anil, ↓x_cons, ↓x_star, ↓x_tup, ↓x_lst, ↓x_dic0, ↓x_call, ↓x_callK, ↓x_yes, ↓x_toD, ↓x_toDo, ↓x_toB, ↓x_wT, ↓x_wF, ↓x_wD, ↓x_wN, ↓x_sub, ↓x_mul, ↓x_fdv, ↓x_mod, ↓x_pow, ↓x_lt, ↓x_le, ↓x_gt, ↓x_ge, ↓x_addi, ↓x_adds, ↓x_addt, ↓x_addl, ↓x_eqi, ↓x_nei, ↓x_eqs, ↓x_nes, ↓x_int, ↓x_nit, ↓x_inl, ↓x_nil, ↓x_isN, ↓x_notN, ↓x_neg, ↓x_lens, ↓x_lent, ↓x_lenl, ↓x_abs, ↓x_inti, ↓x_intb, ↓x_max, ↓x_min, ↓x_tofl, ↓x_toft, ↓x_lofl, ↓x_loft, ↓x_iseq, ↓x_sqt, ↓x_sql, ↓x_turn, ↓x_lstR1, ↓x_rg1, ↓x_rg2, ↓x_rgK, ↓x_rgK1, ↓x_rgK2, ↓x_isi_non_int, ↓x_isi_non_bool, ↓x_isi_non_str, ↓x_isi_non_tuple, ↓x_isi_non_list, ↓x_isi_bl_int, ↓x_isi_bl_bool, ↓x_isi_bl_str, ↓x_isi_bl_tuple, ↓x_isi_bl_list, ↓x_isi_int_int, ↓x_isi_int_bool, ↓x_isi_int_str, ↓x_isi_int_tuple, ↓x_isi_int_list, ↓x_isi_str_int, ↓x_isi_str_bool, ↓x_isi_str_str, ↓x_isi_str_tuple, ↓x_isi_str_list, ↓x_isi_tup_int, ↓x_isi_tup_bool, ↓x_isi_tup_str, ↓x_isi_tup_tuple, ↓x_isi_tup_list, ↓x_isi_lst_int, ↓x_isi_lst_bool, ↓x_isi_lst_str, ↓x_isi_lst_tuple, ↓x_isi_lst_list, ↓x_all, ↓x_any, ↓x_sum, ↓x_bln, ↓x_blc, ↓x_itn, ↓x_itc, x_wG, tyD, ↓x_pot0, ↓x_pot1, ↓x_pot2, ↓x_pset0, ↓x_pset2, ↓x_vK, ↓x_cutnn, ↓x_cutns, ↓x_cutsn, ↓x_cutl, ↓x_cutt, ↓x_kyi, ↓x_kys, ↓x_ops, ↓x_kin, ↓x_kidx, ↓x_bm, ↓x_kindl, ↓x_kinds, ↓x_eqb, ↓x_neb, KD_MOST_MOTION, K_QUARTERS]
      exact ⟨fun _ => ⟨ha, by simpa [p2] using hK⟩, fun z => absurd z (by omega)⟩
    · rw [blK_map (fun _ => true), show ((ps.map frD).map fun _ => true).all id = true by simp]
      exact hR

def lessP (p : Int × Int) : Int × Int := (p.2 - p.1, p.2)
def rotF : Nat → (Int × Int) × (Int × Int) → (Int × Int) × (Int × Int)
  | 0, p => p
  | k + 1, p => rotF k (lessP p.2, p.1)
/-- a motion, on a point of fractions -/
def ledFP (m : Int) (p : (Int × Int) × (Int × Int)) : (Int × Int) × (Int × Int) := rotF (m % 4).toNat (if 4 ≤ m then (lessP p.1, p.2) else p)
def ledF (m : Int) : List (Int × Int) → List (Int × Int)
  | [a] => if m = 0 then [a] else [lessP a]
  | [a, b] => [(ledFP m (a, b)).1, (ledFP m (a, b)).2]
  | l => l
def S_point_under : SpD := fun ds n R _ => ∃ (s m : Int) (ps : List (Int × Int)), ds = [.int s, .int m, .tup (ps.map frD)] ∧ (s = 1 ∨ s = 2) ∧ (ps.length : Int) = s ∧ 0 ≤ m ∧ m ≤ mostM s ∧ (∀ p ∈ ps, Fr01 p) ∧ R (.dat (.tup ((ledF m ps).map frD))) n

def m_point_under : MS := sSeq (sExp (mCall S_check_sides (aCons (mVar 0) (aNil)))) (sSeq (sExp (mCall S_check_motion (aCons (mVar 0) (aCons (mVar 1) (aNil))))) (sSeq (sIf (mNot (mCall S_is_share_tuple (aCons (mVar 0) (aCons (mVar 2) (aNil))))) (sNev) (sNil)) (sSeq (sIf (mBin (gEq false) (mVar 0) (mC (.int 1))) (sRet (mIfE (mBin (gEq false) (mVar 1) (mC (.int 0))) (mVar 2) (mTup (aCons (mCall S_less_from_one (aCons (mBin gIdx (mVar 2) (mC (.int 0))) (aNil))) (aNil))))) (sNil)) (sSeq (sAsgT (gtT 2 (gtCons (gtN 3) (gtCons (gtN 4) (gtNil)))) (mVar 2)) (sSeq (sIf (mBin gGe (mVar 1) (mC K_QUARTERS)) (sAsg 3 (mCall S_less_from_one (aCons (mVar 3) (aNil)))) (sNil)) (sSeq (sFor (iRg1 (aCons (mBin gMod (mVar 1) (mC K_QUARTERS)) (aNil))) (gtN 5) (sParN [3, 4] (moCons (mCall S_less_from_one (aCons (mVar 4) (aNil))) (moCons (mVar 3) (moNil))))) (sRet (mTup (aCons (mVar 3) (aCons (mVar 4) (aNil)))))))))))
theorem mostM_8 {s m : Int} (hs : s = 1 ∨ s = 2) (h : m ≤ mostM s) : m < 8 := by
  rcases hs with rfl | rfl <;> simp [mostM] at h <;> omega
theorem sat_point_under : ∀ ds n R RX, S_point_under ds n R RX → fnM 3 6 m_point_under ds n R fun _ _ _ => False := by
  rintro _ n R RX ⟨s, m, ps, rfl, hs, hl, m0, m1, hp, hR⟩
  refine ⟨rfl, ?_⟩
  have m8 := mostM_8 hs m1
  rcases hs with rfl | rfl
  · obtain ⟨a, rfl⟩ : ∃ a, ps = [a] := by
      match ps, hl with
      | [a], _ => exact ⟨a, rfl⟩
      | [], h => simp at h
      | _ :: _ :: _, h => simp at h; omega
    simp only [startD, List.map_cons, List.map_nil, List.length_cons, List.length_nil, Nat.reduceAdd, Nat.reduceSub, List.replicate_succ, List.replicate_zero, List.cons_append, List.nil_append]; simp -implicitDefEqProofs [↓m_point_under, ↓S_check_sides, ↓S_check_motion, ↓lkK_0, ↓lkK_s, ↓stK_0, ↓stK_s, ↓x_var, ↓x_asg, ↓x_gtN, ↓stSK_c, ↓stSK_n, ↓x_par, ↓wpK_n, ↓wpK_c, ↓x_lc, ↓x_lc2, ↓x_lc2T, ↓x_app, ↓x_ext, ↓x_setI, ↓x_idxV, ↓x_lenV, ↓x_dget, ↓x_din, ↓x_dput, ↓atK_0, ↓atK_1, ↓atK_2, ↓atK_3, ↓atK_m1, ↓atK_m2, ↓atK_m3, ↓atK_m4, ↓x_idxl, ↓x_idxt, ↓x_idxs, ↓x_ret, ↓x_retN, ↓x_seq, ↓x_sif, ↓x_snil, ↓x_exp, ↓x_nev, ↓x_brk, ↓x_cnt, ↓x_sfor, ↓x_moNil, ↓x_moCons, ↓x_asgT, ↓x_gtT, ↓x_gtCons, ↓x_gtNil, ↓x_retV, ↓x_mov, ↓x_c, ↓x_bin, ↓x_un, ↓x_and, ↓x_or, ↓x_not, ↓x_ifE, ↓x_chain, ↓x_cb, ↓x_anil, ↓x_cons, ↓x_star, ↓x_tup, ↓x_lst, ↓x_dic0, ↓x_call, ↓x_callK, ↓x_yes, ↓x_toD, ↓x_toDo, ↓x_toB, ↓x_wT, ↓x_wF, ↓x_wD, ↓x_wN, ↓x_sub, ↓x_mul, ↓x_fdv, ↓x_mod, ↓x_pow, ↓x_lt, ↓x_le, ↓x_gt, ↓x_ge, ↓x_addi, ↓x_adds, ↓x_addt, ↓x_addl, ↓x_eqi, ↓x_nei, ↓x_eqs, ↓x_nes, ↓x_int, ↓x_nit, ↓x_inl, ↓x_nil, ↓x_isN, ↓x_notN, ↓x_neg, ↓x_lens, ↓x_lent, ↓x_lenl, ↓x_abs, ↓x_inti, ↓x_intb, ↓x_max, ↓x_min, ↓x_tofl, ↓x_toft, ↓x_lofl, ↓x_loft, ↓x_iseq, ↓x_sqt, ↓x_sql, ↓x_turn, ↓x_lstR1, ↓x_rg1, ↓x_rg2, ↓x_rgK, ↓x_rgK1, ↓x_rgK2, ↓x_isi_non_int, ↓x_isi_non_bool, ↓x_isi_non_str, ↓x_isi_non_tuple, ↓x_isi_non_list, ↓x_isi_bl_int, ↓x_isi_bl_bool, ↓x_isi_bl_str, ↓x_isi_bl_tuple, ↓x_isi_bl_list, ↓x_isi_int_int, ↓x_isi_int_bool, ↓x_isi_int_str, ↓x_isi_int_tuple, ↓x_isi_int_list, ↓x_isi_str_int, ↓x_isi_str_bool, ↓x_isi_str_str, ↓x_isi_str_tuple, ↓x_isi_str_list, ↓x_isi_tup_int, ↓x_isi_tup_bool, ↓x_isi_tup_str, ↓x_isi_tup_tuple, ↓x_isi_tup_list, ↓x_isi_lst_int, ↓x_isi_lst_bool, ↓x_isi_lst_str, ↓x_isi_lst_tuple, ↓x_isi_lst_list, ↓x_all, ↓x_any, ↓x_sum, ↓x_bln, ↓x_blc, ↓x_itn, ↓x_itc, x_wG, tyD, ↓x_pot0, ↓x_pot1, ↓x_pot2, ↓x_pset0, ↓x_pset2, ↓x_vK, ↓x_cutnn, ↓x_cutns, ↓x_cutsn, ↓x_cutl, ↓x_cutt, ↓x_kyi, ↓x_kys, ↓x_ops, ↓x_kin, ↓x_kidx, ↓x_bm, ↓x_kindl, ↓x_kinds, ↓x_eqb, ↓x_neb, KD_MOST_MOTION, K_QUARTERS]
    refine ⟨m0, m1, 1, [a], rfl, by simp, by simp, hp, ?_⟩
    simp -implicitDefEqProofs [frD, ↓S_less_from_one, ↓lkK_0, ↓lkK_s, ↓stK_0, ↓stK_s, ↓x_var, ↓x_asg, ↓x_gtN, ↓stSK_c, ↓stSK_n, ↓x_par, ↓wpK_n, ↓wpK_c, ↓x_lc, ↓x_lc2, ↓x_lc2T, ↓x_app, ↓x_ext, ↓x_setI, ↓x_idxV, ↓x_lenV, ↓x_dget, ↓x_din, ↓x_dput, ↓atK_0, ↓atK_1, ↓atK_2, ↓atK_3, ↓atK_m1, ↓atK_m2, ↓atK_m3, ↓atK_m4, ↓x_idxl, ↓x_idxt, ↓x_idxs, ↓x_ret, ↓x_retN, ↓x_seq, ↓x_sif, ↓x_snil, ↓x_exp, ↓x_nev, ↓x_brk, ↓x_cnt, ↓x_sfor, ↓x_moNil, ↓x_moCons, ↓x_asgT, ↓x_gtT, ↓x_gtCons, ↓x_gtNil, ↓x_retV, ↓x_mov, ↓x_c, ↓x_bin, ↓x_un, ↓x_and, ↓x_or, ↓x_not, ↓x_ifE, ↓x_chain, ↓x_cb, ↓x_anil, ↓x_cons, ↓x_star, ↓x_tup, ↓x_lst, ↓x_dic0, ↓x_call, ↓x_callK, ↓x_yes, ↓x_toD, ↓x_toDo, ↓x_toB, ↓x_wT, ↓x_wF, ↓x_wD, ↓x_wN, ↓x_sub, ↓x_mul, ↓x_fdv, ↓x_mod, ↓x_pow, ↓x_lt, ↓x_le, ↓x_gt, ↓x_ge, ↓x_addi, ↓x_adds, ↓x_addt, ↓x_addl, ↓x_eqi, ↓x_nei, ↓x_eqs, ↓x_nes, ↓x_int, ↓x_nit, ↓x_inl, ↓x_nil, ↓x_isN, ↓x_notN, ↓x_neg, ↓x_lens, ↓x_lent, ↓x_lenl, ↓x_abs, ↓x_inti, ↓x_intb, ↓x_max, ↓x_min, ↓x_tofl, ↓x_toft, ↓x_lofl, ↓x_loft, ↓x_iseq, ↓x_sqt, ↓x_sql, ↓x_turn, ↓x_lstR1, ↓x_rg1, ↓x_rg2, ↓x_rgK, ↓x_rgK1, ↓x_rgK2, ↓x_isi_non_int, ↓x_isi_non_bool, ↓x_isi_non_str, ↓x_isi_non_tuple, ↓x_isi_non_list, ↓x_isi_bl_int, ↓x_isi_bl_bool, ↓x_isi_bl_str, ↓x_isi_bl_tuple, ↓x_isi_bl_list, ↓x_isi_int_int, ↓x_isi_int_bool, ↓x_isi_int_str, ↓x_isi_int_tuple, ↓x_isi_int_list, ↓x_isi_str_int, ↓x_isi_str_bool, ↓x_isi_str_str, ↓x_isi_str_tuple, ↓x_isi_str_list, ↓x_isi_tup_int, ↓x_isi_tup_bool, ↓x_isi_tup_str, ↓x_isi_tup_tuple, ↓x_isi_tup_list, ↓x_isi_lst_int, ↓x_isi_lst_bool, ↓x_isi_lst_str, ↓x_isi_lst_tuple, ↓x_isi_lst_list, ↓x_all, ↓x_any, ↓x_sum, ↓x_bln, ↓x_blc, ↓x_itn, ↓x_itc, x_wG, tyD, ↓x_pot0, ↓x_pot1, ↓x_pot2, ↓x_pset0, ↓x_pset2, ↓x_vK, ↓x_cutnn, ↓x_cutns, ↓x_cutsn, ↓x_cutl, ↓x_cutt, ↓x_kyi, ↓x_kys, ↓x_ops, ↓x_kin, ↓x_kidx, ↓x_bm, ↓x_kindl, ↓x_kinds, ↓x_eqb, ↓x_neb, KD_MOST_MOTION, K_QUARTERS]
    refine ⟨fun h => by simpa [ledF, h, frD] using hR, fun h => by simpa [ledF, h, frD, lessP] using hR⟩
  · obtain ⟨a, b, rfl⟩ : ∃ a b, ps = [a, b] := by
      match ps, hl with
      | [a, b], _ => exact ⟨a, b, rfl⟩
      | [], h => simp at h
      | [_], h => simp at h
      | _ :: _ :: _ :: _, h => simp at h; omega
    have main : ∀ (x y : Int × Int) (s5 : S), rotF (m % 4).toNat (x, y) = ledFP m (a, b) → forL (gtN 5) (sParN [3, 4] (moCons (mCall S_less_from_one (aCons (mVar 4) aNil)) (moCons (mVar 3) moNil)))
        { nx := sRet (mTup (aCons (mVar 3) (aCons (mVar 4) aNil))) { nx := fun x n' => R (.dat .non) n', rt := fun s x n' => R s n', ex := fun _ _ _ => False }, rt := fun s x n' => R s n', ex := fun _ _ _ => False }
        (rngD 0 (m % 4)) [.dat (.int 2), .dat (.int m), .dat (.tup [frD a, frD b]), .dat (frD x), .dat (frD y), s5] n := by
      intro x y s5 hxy
      refine forL_ind (fun ds ρ n' => ∃ x y s5, ρ = [.dat (.int 2), .dat (.int m), .dat (.tup [frD a, frD b]), .dat (frD x), .dat (frD y), s5] ∧ n' = n ∧ rotF ds.length (x, y) = ledFP m (a, b)) ?_ ?_ _ _ _ ⟨x, y, s5, rfl, rfl, by simpa [rngD] using hxy⟩
      · rintro ρ n' ⟨x, y, s5, rfl, rfl, h⟩
        have h' : (x, y) = ledFP m (a, b) := h
        simp -implicitDefEqProofs [↓lkK_0, ↓lkK_s, ↓stK_0, ↓stK_s, ↓x_var, ↓x_asg, ↓x_gtN, ↓stSK_c, ↓stSK_n, ↓x_par, ↓wpK_n, ↓wpK_c, ↓x_lc, ↓x_lc2, ↓x_lc2T, ↓x_app, ↓x_ext, ↓x_setI, ↓x_idxV, ↓x_lenV, ↓x_dget, ↓x_din, ↓x_dput, ↓atK_0, ↓atK_1, ↓atK_2, ↓atK_3, ↓atK_m1, ↓atK_m2, ↓atK_m3, ↓atK_m4, ↓x_idxl, ↓x_idxt, ↓x_idxs, ↓x_ret, ↓x_retN, ↓x_seq, ↓x_sif, ↓x_snil, ↓x_exp, ↓x_nev, ↓x_brk, ↓x_cnt, ↓x_sfor, ↓x_moNil, ↓x_moCons, ↓x_asgT, ↓x_gtT, ↓x_gtCons, ↓x_gtNil, ↓x_retV, ↓x_mov, ↓x_c, ↓x_bin, ↓x_un, ↓x_and, ↓x_or, ↓x_not, ↓x_ifE, ↓x_chain, ↓x_cb, ↓x_anil, ↓x_cons, ↓x_star, ↓x_tup, ↓x_lst, ↓x_dic0, ↓x_call, ↓x_callK, ↓x_yes, ↓x_toD, ↓x_toDo, ↓x_toB, ↓x_wT, ↓x_wF, ↓x_wD, ↓x_wN, ↓x_sub, ↓x_mul, ↓x_fdv, ↓x_mod, ↓x_pow, ↓x_lt, ↓x_le, ↓x_gt, ↓x_ge, ↓x_addi, ↓x_adds, ↓x_addt, ↓x_addl, ↓x_eqi, ↓x_nei, ↓x_eqs, ↓x_nes, ↓x_int, ↓x_nit, ↓x_inl, ↓x_nil, ↓x_isN, ↓x_notN, ↓x_neg, ↓x_lens, ↓x_lent, ↓x_lenl, ↓x_abs, ↓x_inti, ↓x_intb, ↓x_max, ↓x_min, ↓x_tofl, ↓x_toft, ↓x_lofl, ↓x_loft, ↓x_iseq, ↓x_sqt, ↓x_sql, ↓x_turn, ↓x_lstR1, ↓x_rg1, ↓x_rg2, ↓x_rgK, ↓x_rgK1, ↓x_rgK2, ↓x_isi_non_int, ↓x_isi_non_bool, ↓x_isi_non_str, ↓x_isi_non_tuple, ↓x_isi_non_list, ↓x_isi_bl_int, ↓x_isi_bl_bool, ↓x_isi_bl_str, ↓x_isi_bl_tuple, ↓x_isi_bl_list, ↓x_isi_int_int, ↓x_isi_int_bool, ↓x_isi_int_str, ↓x_isi_int_tuple, ↓x_isi_int_list, ↓x_isi_str_int, ↓x_isi_str_bool, ↓x_isi_str_str, ↓x_isi_str_tuple, ↓x_isi_str_list, ↓x_isi_tup_int, ↓x_isi_tup_bool, ↓x_isi_tup_str, ↓x_isi_tup_tuple, ↓x_isi_tup_list, ↓x_isi_lst_int, ↓x_isi_lst_bool, ↓x_isi_lst_str, ↓x_isi_lst_tuple, ↓x_isi_lst_list, ↓x_all, ↓x_any, ↓x_sum, ↓x_bln, ↓x_blc, ↓x_itn, ↓x_itc, x_wG, tyD, ↓x_pot0, ↓x_pot1, ↓x_pot2, ↓x_pset0, ↓x_pset2, ↓x_vK, ↓x_cutnn, ↓x_cutns, ↓x_cutsn, ↓x_cutl, ↓x_cutt, ↓x_kyi, ↓x_kys, ↓x_ops, ↓x_kin, ↓x_kidx, ↓x_bm, ↓x_kindl, ↓x_kinds, ↓x_eqb, ↓x_neb, KD_MOST_MOTION, K_QUARTERS]
        simpa [ledF, ← h'] using hR
      · rintro d ds ρ n' K hK ⟨x, y, s5, rfl, rfl, h⟩
        simp -implicitDefEqProofs [frD, ↓S_less_from_one, ↓lkK_0, ↓lkK_s, ↓stK_0, ↓stK_s, ↓x_var, ↓x_asg, ↓x_gtN, ↓stSK_c, ↓stSK_n, ↓x_par, ↓wpK_n, ↓wpK_c, ↓x_lc, ↓x_lc2, ↓x_lc2T, ↓x_app, ↓x_ext, ↓x_setI, ↓x_idxV, ↓x_lenV, ↓x_dget, ↓x_din, ↓x_dput, ↓atK_0, ↓atK_1, ↓atK_2, ↓atK_3, ↓atK_m1, ↓atK_m2, ↓atK_m3, ↓atK_m4, ↓x_idxl, ↓x_idxt, ↓x_idxs, ↓x_ret, ↓x_retN, ↓x_seq, ↓x_sif, ↓x_snil, ↓x_exp, ↓x_nev, ↓x_brk, ↓x_cnt, ↓x_sfor, ↓x_moNil, ↓x_moCons, ↓x_asgT, ↓x_gtT, ↓x_gtCons, ↓x_gtNil, ↓x_retV, ↓x_mov, ↓x_c, ↓x_bin, ↓x_un, ↓x_and, ↓x_or, ↓x_not, ↓x_ifE, ↓x_chain, ↓x_cb, ↓x_anil, ↓x_cons, ↓x_star, ↓x_tup, ↓x_lst, ↓x_dic0, ↓x_call, ↓x_callK, ↓x_yes, ↓x_toD, ↓x_toDo, ↓x_toB, ↓x_wT, ↓x_wF, ↓x_wD, ↓x_wN, ↓x_sub, ↓x_mul, ↓x_fdv, ↓x_mod, ↓x_pow, ↓x_lt, ↓x_le, ↓x_gt, ↓x_ge, ↓x_addi, ↓x_adds, ↓x_addt, ↓x_addl, ↓x_eqi, ↓x_nei, ↓x_eqs, ↓x_nes, ↓x_int, ↓x_nit, ↓x_inl, ↓x_nil, ↓x_isN, ↓x_notN, ↓x_neg, ↓x_lens, ↓x_lent, ↓x_lenl, ↓x_abs, ↓x_inti, ↓x_intb, ↓x_max, ↓x_min, ↓x_tofl, ↓x_toft, ↓x_lofl, ↓x_loft, ↓x_iseq, ↓x_sqt, ↓x_sql, ↓x_turn, ↓x_lstR1, ↓x_rg1, ↓x_rg2, ↓x_rgK, ↓x_rgK1, ↓x_rgK2, ↓x_isi_non_int, ↓x_isi_non_bool, ↓x_isi_non_str, ↓x_isi_non_tuple, ↓x_isi_non_list, ↓x_isi_bl_int, ↓x_isi_bl_bool, ↓x_isi_bl_str, ↓x_isi_bl_tuple, ↓x_isi_bl_list, ↓x_isi_int_int, ↓x_isi_int_bool, ↓x_isi_int_str, ↓x_isi_int_tuple, ↓x_isi_int_list, ↓x_isi_str_int, ↓x_isi_str_bool, ↓x_isi_str_str, ↓x_isi_str_tuple, ↓x_isi_str_list, ↓x_isi_tup_int, ↓x_isi_tup_bool, ↓x_isi_tup_str, ↓x_isi_tup_tuple, ↓x_isi_tup_list, ↓x_isi_lst_int, ↓x_isi_lst_bool, ↓x_isi_lst_str, ↓x_isi_lst_tuple, ↓x_isi_lst_list, ↓x_all, ↓x_any, ↓x_sum, ↓x_bln, ↓x_blc, ↓x_itn, ↓x_itc, x_wG, tyD, ↓x_pot0, ↓x_pot1, ↓x_pot2, ↓x_pset0, ↓x_pset2, ↓x_vK, ↓x_cutnn, ↓x_cutns, ↓x_cutsn, ↓x_cutl, ↓x_cutt, ↓x_kyi, ↓x_kys, ↓x_ops, ↓x_kin, ↓x_kidx, ↓x_bm, ↓x_kindl, ↓x_kinds, ↓x_eqb, ↓x_neb, KD_MOST_MOTION, K_QUARTERS]
        exact hK _ _ ⟨lessP y, x, _, rfl, rfl, h⟩
    simp only [startD, List.map_cons, List.map_nil, List.length_cons, List.length_nil, Nat.reduceAdd, Nat.reduceSub, List.replicate_succ, List.replicate_zero, List.cons_append, List.nil_append]; simp -implicitDefEqProofs [↓m_point_under, ↓S_check_sides, ↓S_check_motion, ↓lkK_0, ↓lkK_s, ↓stK_0, ↓stK_s, ↓x_var, ↓x_asg, ↓x_gtN, ↓stSK_c, ↓stSK_n, ↓x_par, ↓wpK_n, ↓wpK_c, ↓x_lc, ↓x_lc2, ↓x_lc2T, ↓x_app, ↓x_ext, ↓x_setI, ↓x_idxV, ↓x_lenV, ↓x_dget, ↓x_din, ↓x_dput, ↓atK_0, ↓atK_1, ↓atK_2, ↓atK_3, ↓atK_m1, ↓atK_m2, ↓atK_m3, ↓atK_m4, ↓x_idxl, ↓x_idxt, ↓x_idxs, ↓x_ret, ↓x_retN, ↓x_seq, ↓x_sif, ↓x_snil, ↓x_exp, ↓x_nev, ↓x_brk, ↓x_cnt, ↓x_sfor, ↓x_moNil, ↓x_moCons, ↓x_asgT, ↓x_gtT, ↓x_gtCons, ↓x_gtNil, ↓x_retV, ↓x_mov, ↓x_c, ↓x_bin, ↓x_un, ↓x_and, ↓x_or, ↓x_not, ↓x_ifE, ↓x_chain, ↓x_cb, ↓x_anil, ↓x_cons, ↓x_star, ↓x_tup, ↓x_lst, ↓x_dic0, ↓x_call, ↓x_callK, ↓x_yes, ↓x_toD, ↓x_toDo, ↓x_toB, ↓x_wT, ↓x_wF, ↓x_wD, ↓x_wN, ↓x_sub, ↓x_mul, ↓x_fdv, ↓x_mod, ↓x_pow, ↓x_lt, ↓x_le, ↓x_gt, ↓x_ge, ↓x_addi, ↓x_adds, ↓x_addt, ↓x_addl, ↓x_eqi, ↓x_nei, ↓x_eqs, ↓x_nes, ↓x_int, ↓x_nit, ↓x_inl, ↓x_nil, ↓x_isN, ↓x_notN, ↓x_neg, ↓x_lens, ↓x_lent, ↓x_lenl, ↓x_abs, ↓x_inti, ↓x_intb, ↓x_max, ↓x_min, ↓x_tofl, ↓x_toft, ↓x_lofl, ↓x_loft, ↓x_iseq, ↓x_sqt, ↓x_sql, ↓x_turn, ↓x_lstR1, ↓x_rg1, ↓x_rg2, ↓x_rgK, ↓x_rgK1, ↓x_rgK2, ↓x_isi_non_int, ↓x_isi_non_bool, ↓x_isi_non_str, ↓x_isi_non_tuple, ↓x_isi_non_list, ↓x_isi_bl_int, ↓x_isi_bl_bool, ↓x_isi_bl_str, ↓x_isi_bl_tuple, ↓x_isi_bl_list, ↓x_isi_int_int, ↓x_isi_int_bool, ↓x_isi_int_str, ↓x_isi_int_tuple, ↓x_isi_int_list, ↓x_isi_str_int, ↓x_isi_str_bool, ↓x_isi_str_str, ↓x_isi_str_tuple, ↓x_isi_str_list, ↓x_isi_tup_int, ↓x_isi_tup_bool, ↓x_isi_tup_str, ↓x_isi_tup_tuple, ↓x_isi_tup_list, ↓x_isi_lst_int, ↓x_isi_lst_bool, ↓x_isi_lst_str, ↓x_isi_lst_tuple, ↓x_isi_lst_list, ↓x_all, ↓x_any, ↓x_sum, ↓x_bln, ↓x_blc, ↓x_itn, ↓x_itc, x_wG, tyD, ↓x_pot0, ↓x_pot1, ↓x_pot2, ↓x_pset0, ↓x_pset2, ↓x_vK, ↓x_cutnn, ↓x_cutns, ↓x_cutsn, ↓x_cutl, ↓x_cutt, ↓x_kyi, ↓x_kys, ↓x_ops, ↓x_kin, ↓x_kidx, ↓x_bm, ↓x_kindl, ↓x_kinds, ↓x_eqb, ↓x_neb, KD_MOST_MOTION, K_QUARTERS]
    refine ⟨m0, m1, 2, [a, b], rfl, by simp, by simp, hp, ?_⟩
    simp -implicitDefEqProofs [frD, ↓S_less_from_one, ↓lkK_0, ↓lkK_s, ↓stK_0, ↓stK_s, ↓x_var, ↓x_asg, ↓x_gtN, ↓stSK_c, ↓stSK_n, ↓x_par, ↓wpK_n, ↓wpK_c, ↓x_lc, ↓x_lc2, ↓x_lc2T, ↓x_app, ↓x_ext, ↓x_setI, ↓x_idxV, ↓x_lenV, ↓x_dget, ↓x_din, ↓x_dput, ↓atK_0, ↓atK_1, ↓atK_2, ↓atK_3, ↓atK_m1, ↓atK_m2, ↓atK_m3, ↓atK_m4, ↓x_idxl, ↓x_idxt, ↓x_idxs, ↓x_ret, ↓x_retN, ↓x_seq, ↓x_sif, ↓x_snil, ↓x_exp, ↓x_nev, ↓x_brk, ↓x_cnt, ↓x_sfor, ↓x_moNil, ↓x_moCons, ↓x_asgT, ↓x_gtT, ↓x_gtCons, ↓x_gtNil, ↓x_retV, ↓x_mov, ↓x_c, ↓x_bin, ↓x_un, ↓x_and, ↓x_or, ↓x_not, ↓x_ifE, ↓x_chain, ↓x_cb, ↓x_anil, ↓x_cons, ↓x_star, ↓x_tup, ↓x_lst, ↓x_dic0, ↓x_call, ↓x_callK, ↓x_yes, ↓x_toD, ↓x_toDo, ↓x_toB, ↓x_wT, ↓x_wF, ↓x_wD, ↓x_wN, ↓x_sub, ↓x_mul, ↓x_fdv, ↓x_mod, ↓x_pow, ↓x_lt, ↓x_le, ↓x_gt, ↓x_ge, ↓x_addi, ↓x_adds, ↓x_addt, ↓x_addl, ↓x_eqi, ↓x_nei, ↓x_eqs, ↓x_nes, ↓x_int, ↓x_nit, ↓x_inl, ↓x_nil, ↓x_isN, ↓x_notN, ↓x_neg, ↓x_lens, ↓x_lent, ↓x_lenl, ↓x_abs, ↓x_inti, ↓x_intb, ↓x_max, ↓x_min, ↓x_tofl, ↓x_toft, ↓x_lofl, ↓x_loft, ↓x_iseq, ↓x_sqt, ↓x_sql, ↓x_turn, ↓x_lstR1, ↓x_rg1, ↓x_rg2, ↓x_rgK, ↓x_rgK1, ↓x_rgK2, ↓x_isi_non_int, ↓x_isi_non_bool, ↓x_isi_non_str, ↓x_isi_non_tuple, ↓x_isi_non_list, ↓x_isi_bl_int, ↓x_isi_bl_bool, ↓x_isi_bl_str, ↓x_isi_bl_tuple, ↓x_isi_bl_list, ↓x_isi_int_int, ↓x_isi_int_bool, ↓x_isi_int_str, ↓x_isi_int_tuple, ↓x_isi_int_list, ↓x_isi_str_int, ↓x_isi_str_bool, ↓x_isi_str_str, ↓x_isi_str_tuple, ↓x_isi_str_list, ↓x_isi_tup_int, ↓x_isi_tup_bool, ↓x_isi_tup_str, ↓x_isi_tup_tuple, ↓x_isi_tup_list, ↓x_isi_lst_int, ↓x_isi_lst_bool, ↓x_isi_lst_str, ↓x_isi_lst_tuple, ↓x_isi_lst_list, ↓x_all, ↓x_any, ↓x_sum, ↓x_bln, ↓x_blc, ↓x_itn, ↓x_itc, x_wG, tyD, ↓x_pot0, ↓x_pot1, ↓x_pot2, ↓x_pset0, ↓x_pset2, ↓x_vK, ↓x_cutnn, ↓x_cutns, ↓x_cutsn, ↓x_cutl, ↓x_cutt, ↓x_kyi, ↓x_kys, ↓x_ops, ↓x_kin, ↓x_kidx, ↓x_bm, ↓x_kindl, ↓x_kinds, ↓x_eqb, ↓x_neb, KD_MOST_MOTION, K_QUARTERS]
    refine ⟨fun h => ⟨by omega, by omega, main (lessP a) b _ (by simp [ledFP, h])⟩, fun h => ⟨by omega, by omega, main a b _ (by simp [ledFP, show ¬ 4 ≤ m by omega])⟩⟩

def S_cell_under : SpD := fun ds n R _ => ∃ (s size m : Int) (l : List Int), ds = [.int s, .int size, .int m, tupI l] ∧ (s = 1 ∨ s = 2) ∧ (l.length : Int) = s ∧ 1 ≤ size ∧ 0 ≤ m ∧ m ≤ mostM s ∧ (∀ x ∈ l, 0 ≤ x ∧ x < size) ∧ R (.dat (tupI (ledL m (size - 1) l))) n

def m_cell_under : MS := sSeq (sExp (mCall S_check_sides (aCons (mVar 0) (aNil)))) (sSeq (sIf (mOr (mNot (mCall S_is_integer (aCons (mVar 1) (aNil)))) (mBin gLt (mVar 1) (mC (.int 1)))) (sNev) (sNil)) (sSeq (sExp (mCall S_check_motion (aCons (mVar 0) (aCons (mVar 2) (aNil))))) (sSeq (sIf (mOr (mNot (mCB gIsi (aCons (mVar 3) (aCons (mC (.ty "tuple")) (aNil))))) (mOr (mBin (gEq true) (mCB gLen (aCons (mVar 3) (aNil))) (mVar 0)) (mNot (mCB gAll (aCons (mLc (iSeq (mVar 3)) (gtN 4) (mYes) (mCall S_is_integer (aCons (mVar 4) (aNil))) [4]) (aNil)))))) (sNev) (sNil)) (sSeq (sIf (mNot (mCB gAll (aCons (mLc (iSeq (mVar 3)) (gtN 4) (mYes) (mChain gLe gLt (mC (.int 0)) (mVar 4) (mVar 1)) [4]) (aNil)))) (sNev) (sNil)) (sRet (mCall S_cell_moved (aCons (mVar 1) (aCons (mVar 2) (aCons (mVar 3) (aNil))))))))))
theorem sat_cell_under : ∀ ds n R RX, S_cell_under ds n R RX → fnM 4 5 m_cell_under ds n R fun _ _ _ => False := by
  rintro _ n R RX ⟨s, size, m, l, rfl, hs, hl, h1, m0, m1, hd, hR⟩
  refine ⟨rfl, ?_⟩
  have m8 := mostM_8 hs m1
  have hl2 : l.length = 1 ∨ l.length = 2 := by omega
  have hsz : ¬ size < 1 := by omega
  simp only [tupI] at *
  simp only [startD, List.map_cons, List.map_nil, List.length_cons, List.length_nil, Nat.reduceAdd, Nat.reduceSub, List.replicate_succ, List.replicate_zero, List.cons_append, List.nil_append]; simp -implicitDefEqProofs -dsimp [↓m_cell_under, ↓S_check_sides, ↓S_check_motion, ↓S_is_integer, isI, hl, hsz, ↓lkK_0, ↓lkK_s, ↓stK_0, ↓stK_s, ↓x_var, ↓x_asg, ↓x_gtN, ↓stSK_c, ↓stSK_n, ↓x_par, ↓wpK_n, ↓wpK_c, ↓x_lcz, ↓x_lc2z, ↓x_lc2T, ↓x_app, ↓x_ext, ↓x_setI, ↓x_idxV, ↓x_lenV, ↓x_dget, ↓x_din, ↓x_dput, ↓atK_0, ↓atK_1, ↓atK_2, ↓atK_3, ↓atK_m1, ↓atK_m2, ↓atK_m3, ↓atK_m4, ↓x_idxl, ↓x_idxt, ↓x_idxs, ↓x_ret, ↓x_retN, ↓x_seq, ↓x_sif, ↓x_snil, ↓x_exp, ↓x_nev, ↓x_brk, ↓x_cnt, ↓x_sfor, ↓x_moNil, ↓x_moCons, ↓x_asgT, ↓x_gtT, ↓x_gtCons, ↓x_gtNil, ↓x_retV, ↓x_mov, ↓x_c, ↓x_bin, ↓x_un, ↓x_and, ↓x_or, ↓x_not, ↓x_ifE, ↓x_chain, ↓x_cb, ↓x_anil, ↓x_cons, ↓x_star, ↓x_tup, ↓x_lst, ↓x_dic0, ↓x_call, ↓x_callK, ↓x_yes, ↓x_toD, ↓x_toDo, ↓x_toB, ↓x_wT, ↓x_wF, ↓x_wD, ↓x_wN, ↓x_sub, ↓x_mul, ↓x_fdv, ↓x_mod, ↓x_pow, ↓x_lt, ↓x_le, ↓x_gt, ↓x_ge, ↓x_addi, ↓x_adds, ↓x_addt, ↓x_addl, ↓x_eqi, ↓x_nei, ↓x_eqs, ↓x_nes, ↓x_int, ↓x_nit, ↓x_inl, ↓x_nil, ↓x_isN, ↓x_notN, ↓x_neg, ↓x_lens, ↓x_lent, ↓x_lenl, ↓x_abs, ↓x_inti, ↓x_intb, ↓x_max, ↓x_min, ↓x_tofl, ↓x_toft, ↓x_lofl, ↓x_loft, ↓x_iseq, ↓x_sqt, ↓x_sql, ↓x_turn, ↓x_lstR1, ↓x_rg1, ↓x_rg2, ↓x_rgK, ↓x_rgK1, ↓x_rgK2, ↓x_isi_non_int, ↓x_isi_non_bool, ↓x_isi_non_str, ↓x_isi_non_tuple, ↓x_isi_non_list, ↓x_isi_bl_int, ↓x_isi_bl_bool, ↓x_isi_bl_str, ↓x_isi_bl_tuple, ↓x_isi_bl_list, ↓x_isi_int_int, ↓x_isi_int_bool, ↓x_isi_int_str, ↓x_isi_int_tuple, ↓x_isi_int_list, ↓x_isi_str_int, ↓x_isi_str_bool, ↓x_isi_str_str, ↓x_isi_str_tuple, ↓x_isi_str_list, ↓x_isi_tup_int, ↓x_isi_tup_bool, ↓x_isi_tup_str, ↓x_isi_tup_tuple, ↓x_isi_tup_list, ↓x_isi_lst_int, ↓x_isi_lst_bool, ↓x_isi_lst_str, ↓x_isi_lst_tuple, ↓x_isi_lst_list, ↓x_all, ↓x_any, ↓x_sum, ↓x_bln, ↓x_blc, ↓x_itn, ↓x_itc, x_wG, tyD, ↓x_pot0, ↓x_pot1, ↓x_pot2, ↓x_pset0, ↓x_pset2, ↓x_vK, ↓x_cutnn, ↓x_cutns, ↓x_cutsn, ↓x_cutl, ↓x_cutt, ↓x_kyi, ↓x_kys, ↓x_ops, ↓x_kin, ↓x_kidx, ↓x_bm, ↓x_kindl, ↓x_kinds, ↓x_eqb, ↓x_neb, KD_MOST_MOTION, K_QUARTERS, ↓x_bx]
  refine ⟨hs, m0, m1, ?_⟩
  refine lcL_of D.int (fun _ => .bl true) (fun x hx acc m K ha hK => ?_) n (by omega) ?_
  · simp -implicitDefEqProofs -dsimp [↓S_is_integer, isI, ↓lkK_0, ↓lkK_s, ↓stK_0, ↓stK_s, ↓x_var, ↓x_asg, ↓x_gtN, ↓stSK_c, ↓stSK_n, ↓x_par, ↓wpK_n, ↓wpK_c, ↓x_lcz, ↓x_lc2z, ↓x_lc2T, ↓x_app, ↓x_ext, ↓x_setI, ↓x_idxV, ↓x_lenV, ↓x_dget, ↓x_din, ↓x_dput, ↓atK_0, ↓atK_1, ↓atK_2, ↓atK_3, ↓atK_m1, ↓atK_m2, ↓atK_m3, ↓atK_m4, ↓x_idxl, ↓x_idxt, ↓x_idxs, ↓x_ret, ↓x_retN, ↓x_seq, ↓x_sif, ↓x_snil, ↓x_exp, ↓x_nev, ↓x_brk, ↓x_cnt, ↓x_sfor, ↓x_moNil, ↓x_moCons, ↓x_asgT, ↓x_gtT, ↓x_gtCons, ↓x_gtNil, ↓x_retV, ↓x_mov, ↓x_c, ↓x_bin, ↓x_un, ↓x_and, ↓x_or, ↓x_not, ↓x_ifE, ↓x_chain, ↓x_cb, ↓x_anil, ↓x_cons, ↓x_star, ↓x_tup, ↓x_lst, ↓x_dic0, ↓x_call, ↓x_callK, ↓x_yes, ↓x_toD, ↓x_toDo, ↓x_toB, ↓x_wT, ↓x_wF, ↓x_wD, ↓x_wN, ↓x_sub, ↓x_mul, ↓x_fdv, ↓x_mod, ↓x_pow, ↓x_lt, ↓x_le, ↓x_gt, ↓x_ge, ↓x_addi, ↓x_adds, ↓x_addt, ↓x_addl, ↓x_eqi, ↓x_nei, ↓x_eqs, ↓x_nes, ↓x_int, ↓x_nit, ↓x_inl, ↓x_nil, ↓x_isN, ↓x_notN, ↓x_neg, ↓x_lens, ↓x_lent, ↓x_lenl, ↓x_abs, ↓x_inti, ↓x_intb, ↓x_max, ↓x_min, ↓x_tofl, ↓x_toft, ↓x_lofl, ↓x_loft, ↓x_iseq, ↓x_sqt, ↓x_sql, ↓x_turn, ↓x_lstR1, ↓x_rg1, ↓x_rg2, ↓x_rgK, ↓x_rgK1, ↓x_rgK2, ↓x_isi_non_int, ↓x_isi_non_bool, ↓x_isi_non_str, ↓x_isi_non_tuple, ↓x_isi_non_list, ↓x_isi_bl_int, ↓x_isi_bl_bool, ↓x_isi_bl_str, ↓x_isi_bl_tuple, ↓x_isi_bl_list, ↓x_isi_int_int, ↓x_isi_int_bool, ↓x_isi_int_str, ↓x_isi_int_tuple, ↓x_isi_int_list, ↓x_isi_str_int, ↓x_isi_str_bool, ↓x_isi_str_str, ↓x_isi_str_tuple, ↓x_isi_str_list, ↓x_isi_tup_int, ↓x_isi_tup_bool, ↓x_isi_tup_str, ↓x_isi_tup_tuple, ↓x_isi_tup_list, ↓x_isi_lst_int, ↓x_isi_lst_bool, ↓x_isi_lst_str, ↓x_isi_lst_tuple, ↓x_isi_lst_list, ↓x_all, ↓x_any, ↓x_sum, ↓x_bln, ↓x_blc, ↓x_itn, ↓x_itc, x_wG, tyD, ↓x_pot0, ↓x_pot1, ↓x_pot2, ↓x_pset0, ↓x_pset2, ↓x_vK, ↓x_cutnn, ↓x_cutns, ↓x_cutsn, ↓x_cutl, ↓x_cutt, ↓x_kyi, ↓x_kys, ↓x_ops, ↓x_kin, ↓x_kidx, ↓x_bm, ↓x_kindl, ↓x_kinds, ↓x_eqb, ↓x_neb, KD_MOST_MOTION, K_QUARTERS, ↓x_bx]
    exact ⟨ha, hK⟩
  simp -implicitDefEqProofs only [↓x_bx, ↓x_cb, ↓x_anil, ↓x_cons, ↓x_toDo, ↓x_toD, ↓x_all]
  rw [blK_of (fun _ => true)]
  simp -implicitDefEqProofs -dsimp [↓lkK_0, ↓lkK_s, ↓stK_0, ↓stK_s, ↓x_var, ↓x_asg, ↓x_gtN, ↓stSK_c, ↓stSK_n, ↓x_par, ↓wpK_n, ↓wpK_c, ↓x_lcz, ↓x_lc2z, ↓x_lc2T, ↓x_app, ↓x_ext, ↓x_setI, ↓x_idxV, ↓x_lenV, ↓x_dget, ↓x_din, ↓x_dput, ↓atK_0, ↓atK_1, ↓atK_2, ↓atK_3, ↓atK_m1, ↓atK_m2, ↓atK_m3, ↓atK_m4, ↓x_idxl, ↓x_idxt, ↓x_idxs, ↓x_ret, ↓x_retN, ↓x_seq, ↓x_sif, ↓x_snil, ↓x_exp, ↓x_nev, ↓x_brk, ↓x_cnt, ↓x_sfor, ↓x_moNil, ↓x_moCons, ↓x_asgT, ↓x_gtT, ↓x_gtCons, ↓x_gtNil, ↓x_retV, ↓x_mov, ↓x_c, ↓x_bin, ↓x_un, ↓x_and, ↓x_or, ↓x_not, ↓x_ifE, ↓x_chain, ↓x_cb, ↓x_anil, ↓x_cons, ↓x_star, ↓x_tup, ↓x_lst, ↓x_dic0, ↓x_call, ↓x_callK, ↓x_yes, ↓x_toD, ↓x_toDo, ↓x_toB, ↓x_wT, ↓x_wF, ↓x_wD, ↓x_wN, ↓x_sub, ↓x_mul, ↓x_fdv, ↓x_mod, ↓x_pow, ↓x_lt, ↓x_le, ↓x_gt, ↓x_ge, ↓x_addi, ↓x_adds, ↓x_addt, ↓x_addl, ↓x_eqi, ↓x_nei, ↓x_eqs, ↓x_nes, ↓x_int, ↓x_nit, ↓x_inl, ↓x_nil, ↓x_isN, ↓x_notN, ↓x_neg, ↓x_lens, ↓x_lent, ↓x_lenl, ↓x_abs, ↓x_inti, ↓x_intb, ↓x_max, ↓x_min, ↓x_tofl, ↓x_toft, ↓x_lofl, ↓x_loft, ↓x_iseq, ↓x_sqt, ↓x_sql, ↓x_turn, ↓x_lstR1, ↓x_rg1, ↓x_rg2, ↓x_rgK, ↓x_rgK1, ↓x_rgK2, ↓x_isi_non_int, ↓x_isi_non_bool, ↓x_isi_non_str, ↓x_isi_non_tuple, ↓x_isi_non_list, ↓x_isi_bl_int, ↓x_isi_bl_bool, ↓x_isi_bl_str, ↓x_isi_bl_tuple, ↓x_isi_bl_list, ↓x_isi_int_int, ↓x_isi_int_bool, ↓x_isi_int_str, ↓x_isi_int_tuple, ↓x_isi_int_list, ↓x_isi_str_int, ↓x_isi_str_bool, ↓x_isi_str_str, ↓x_isi_str_tuple, ↓x_isi_str_list, ↓x_isi_tup_int, ↓x_isi_tup_bool, ↓x_isi_tup_str, ↓x_isi_tup_tuple, ↓x_isi_tup_list, ↓x_isi_lst_int, ↓x_isi_lst_bool, ↓x_isi_lst_str, ↓x_isi_lst_tuple, ↓x_isi_lst_list, ↓x_all, ↓x_any, ↓x_sum, ↓x_bln, ↓x_blc, ↓x_itn, ↓x_itc, x_wG, tyD, ↓x_pot0, ↓x_pot1, ↓x_pot2, ↓x_pset0, ↓x_pset2, ↓x_vK, ↓x_cutnn, ↓x_cutns, ↓x_cutsn, ↓x_cutl, ↓x_cutt, ↓x_kyi, ↓x_kys, ↓x_ops, ↓x_kin, ↓x_kidx, ↓x_bm, ↓x_kindl, ↓x_kinds, ↓x_eqb, ↓x_neb, KD_MOST_MOTION, K_QUARTERS, ↓x_bx]
  refine lcL_of D.int (fun _ => .bl true) (fun x hx acc m K ha hK => ?_) n (by omega) ?_
  · obtain ⟨x0, x1⟩ := hd x hx
    simp -implicitDefEqProofs -dsimp [x0, x1, ↓lkK_0, ↓lkK_s, ↓stK_0, ↓stK_s, ↓x_var, ↓x_asg, ↓x_gtN, ↓stSK_c, ↓stSK_n, ↓x_par, ↓wpK_n, ↓wpK_c, ↓x_lcz, ↓x_lc2z, ↓x_lc2T, ↓x_app, ↓x_ext, ↓x_setI, ↓x_idxV, ↓x_lenV, ↓x_dget, ↓x_din, ↓x_dput, ↓atK_0, ↓atK_1, ↓atK_2, ↓atK_3, ↓atK_m1, ↓atK_m2, ↓atK_m3, ↓atK_m4, ↓x_idxl, ↓x_idxt, ↓x_idxs, ↓x_ret, ↓x_retN, ↓x_seq, ↓x_sif, ↓x_snil, ↓x_exp, ↓x_nev, ↓x_brk, ↓x_cnt, ↓x_sfor, ↓x_moNil, ↓x_moCons, ↓x_asgT, ↓x_gtT, ↓x_gtCons, ↓x_gtNil, ↓x_retV, ↓x_mov, ↓x_c, ↓x_bin, ↓x_un, ↓x_and, ↓x_or, ↓x_not, ↓x_ifE, ↓x_chain, ↓x_cb, ↓x_anil, ↓x_cons, ↓x_star, ↓x_tup, ↓x_lst, ↓x_dic0, ↓x_call, ↓x_callK, ↓x_yes, ↓x_toD, ↓x_toDo, ↓x_toB, ↓x_wT, ↓x_wF, ↓x_wD, ↓x_wN, ↓x_sub, ↓x_mul, ↓x_fdv, ↓x_mod, ↓x_pow, ↓x_lt, ↓x_le, ↓x_gt, ↓x_ge, ↓x_addi, ↓x_adds, ↓x_addt, ↓x_addl, ↓x_eqi, ↓x_nei, ↓x_eqs, ↓x_nes, ↓x_int, ↓x_nit, ↓x_inl, ↓x_nil, ↓x_isN, ↓x_notN, ↓x_neg, ↓x_lens, ↓x_lent, ↓x_lenl, ↓x_abs, ↓x_inti, ↓x_intb, ↓x_max, ↓x_min, ↓x_tofl, ↓x_toft, ↓x_lofl, ↓x_loft, ↓x_iseq, ↓x_sqt, ↓x_sql, ↓x_turn, ↓x_lstR1, ↓x_rg1, ↓x_rg2, ↓x_rgK, ↓x_rgK1, ↓x_rgK2, ↓x_isi_non_int, ↓x_isi_non_bool, ↓x_isi_non_str, ↓x_isi_non_tuple, ↓x_isi_non_list, ↓x_isi_bl_int, ↓x_isi_bl_bool, ↓x_isi_bl_str, ↓x_isi_bl_tuple, ↓x_isi_bl_list, ↓x_isi_int_int, ↓x_isi_int_bool, ↓x_isi_int_str, ↓x_isi_int_tuple, ↓x_isi_int_list, ↓x_isi_str_int, ↓x_isi_str_bool, ↓x_isi_str_str, ↓x_isi_str_tuple, ↓x_isi_str_list, ↓x_isi_tup_int, ↓x_isi_tup_bool, ↓x_isi_tup_str, ↓x_isi_tup_tuple, ↓x_isi_tup_list, ↓x_isi_lst_int, ↓x_isi_lst_bool, ↓x_isi_lst_str, ↓x_isi_lst_tuple, ↓x_isi_lst_list, ↓x_all, ↓x_any, ↓x_sum, ↓x_bln, ↓x_blc, ↓x_itn, ↓x_itc, x_wG, tyD, ↓x_pot0, ↓x_pot1, ↓x_pot2, ↓x_pset0, ↓x_pset2, ↓x_vK, ↓x_cutnn, ↓x_cutns, ↓x_cutsn, ↓x_cutl, ↓x_cutt, ↓x_kyi, ↓x_kys, ↓x_ops, ↓x_kin, ↓x_kidx, ↓x_bm, ↓x_kindl, ↓x_kinds, ↓x_eqb, ↓x_neb, KD_MOST_MOTION, K_QUARTERS, ↓x_bx]
    exact ⟨ha, hK⟩
  simp -implicitDefEqProofs only [↓x_bx, ↓x_cb, ↓x_anil, ↓x_cons, ↓x_toDo, ↓x_toD, ↓x_all]
  rw [blK_of (fun _ => true)]
  simp -implicitDefEqProofs -dsimp [↓lkK_0, ↓lkK_s, ↓stK_0, ↓stK_s, ↓x_var, ↓x_asg, ↓x_gtN, ↓stSK_c, ↓stSK_n, ↓x_par, ↓wpK_n, ↓wpK_c, ↓x_lcz, ↓x_lc2z, ↓x_lc2T, ↓x_app, ↓x_ext, ↓x_setI, ↓x_idxV, ↓x_lenV, ↓x_dget, ↓x_din, ↓x_dput, ↓atK_0, ↓atK_1, ↓atK_2, ↓atK_3, ↓atK_m1, ↓atK_m2, ↓atK_m3, ↓atK_m4, ↓x_idxl, ↓x_idxt, ↓x_idxs, ↓x_ret, ↓x_retN, ↓x_seq, ↓x_sif, ↓x_snil, ↓x_exp, ↓x_nev, ↓x_brk, ↓x_cnt, ↓x_sfor, ↓x_moNil, ↓x_moCons, ↓x_asgT, ↓x_gtT, ↓x_gtCons, ↓x_gtNil, ↓x_retV, ↓x_mov, ↓x_c, ↓x_bin, ↓x_un, ↓x_and, ↓x_or, ↓x_not, ↓x_ifE, ↓x_chain, ↓x_cb, ↓x_anil, ↓x_cons, ↓x_star, ↓x_tup, ↓x_lst, ↓x_dic0, ↓x_call, ↓x_callK, ↓x_yes, ↓x_toD, ↓x_toDo, ↓x_toB, ↓x_wT, ↓x_wF, ↓x_wD, ↓x_wN, ↓x_sub, ↓x_mul, ↓x_fdv, ↓x_mod, ↓x_pow, ↓x_lt, ↓x_le, ↓x_gt, ↓x_ge, ↓x_addi, ↓x_adds, ↓x_addt, ↓x_addl, ↓x_eqi, ↓x_nei, ↓x_eqs, ↓x_nes, ↓x_int, ↓x_nit, ↓x_inl, ↓x_nil, ↓x_isN, ↓x_notN, ↓x_neg, ↓x_lens, ↓x_lent, ↓x_lenl, ↓x_abs, ↓x_inti, ↓x_intb, ↓x_max, ↓x_min, ↓x_tofl, ↓x_toft, ↓x_lofl, ↓x_loft, ↓x_iseq, ↓x_sqt, ↓x_sql, ↓x_turn, ↓x_lstR1, ↓x_rg1, ↓x_rg2, ↓x_rgK, ↓x_rgK1, ↓x_rgK2, ↓x_isi_non_int, ↓x_isi_non_bool, ↓x_isi_non_str, ↓x_isi_non_tuple, ↓x_isi_non_list, ↓x_isi_bl_int, ↓x_isi_bl_bool, ↓x_isi_bl_str, ↓x_isi_bl_tuple, ↓x_isi_bl_list, ↓x_isi_int_int, ↓x_isi_int_bool, ↓x_isi_int_str, ↓x_isi_int_tuple, ↓x_isi_int_list, ↓x_isi_str_int, ↓x_isi_str_bool, ↓x_isi_str_str, ↓x_isi_str_tuple, ↓x_isi_str_list, ↓x_isi_tup_int, ↓x_isi_tup_bool, ↓x_isi_tup_str, ↓x_isi_tup_tuple, ↓x_isi_tup_list, ↓x_isi_lst_int, ↓x_isi_lst_bool, ↓x_isi_lst_str, ↓x_isi_lst_tuple, ↓x_isi_lst_list, ↓x_all, ↓x_any, ↓x_sum, ↓x_bln, ↓x_blc, ↓x_itn, ↓x_itc, x_wG, tyD, ↓x_pot0, ↓x_pot1, ↓x_pot2, ↓x_pset0, ↓x_pset2, ↓x_vK, ↓x_cutnn, ↓x_cutns, ↓x_cutsn, ↓x_cutl, ↓x_cutt, ↓x_kyi, ↓x_kys, ↓x_ops, ↓x_kin, ↓x_kidx, ↓x_bm, ↓x_kindl, ↓x_kinds, ↓x_eqb, ↓x_neb, KD_MOST_MOTION, K_QUARTERS, ↓x_bx]
  exact ⟨size, m, l, rfl, hl2, m0, m8, hR⟩

def S_law_pot : SpD := fun ds n R _ => match ds with
  | [.lst xs, .int place] => (∃ ns : List Int, xs = ns.map D.int) ∧ 0 ≤ place ∧ place < 1000 ∧ R (.dat .pot) n
  | _ => False

def m_law_pot : MS := sSeq (sAsg 2 (mIfE (mBin gLt (mVar 1) (mCB gLen (aCons (mVar 0) (aNil)))) (mBin gIdx (mVar 0) (mVar 1)) (mBin gAdd (mBin gAdd (mBin gMod (mCB gSum (aCons (mCut (mVar 0) none (some (mC (.int 1)))) (aNil))) (mC (.int 1000003))) (mBin gMul (mC (.int 1017)) (mVar 1))) (mC (.int 433))))) (sSeq (sAsg 3 (mBin gMul (mBin gMod (mCB gInt (aCons (mCB gAbs (aCons (mVar 2) (aNil))) (aNil))) (mBin gPow (mBin gPow (mC (.int 10)) (mC (.int 60))) (mC (.int 5)))) (mCB gInt (aCons (mBin gGe (mCB gAbs (aCons (mVar 2) (aNil))) (mBin gPow (mC (.int 10)) (mC (.int 18)))) (aNil))))) (sSeq (sAsg 4 (mBin gMod (mCB gInt (aCons (mVar 2) (aNil))) (mC (.int 2305843009213693951)))) (sRet (mLst (aCons (mVar 3) (aCons (mBin gMod (mCB gInt (aCons (mBin gAdd (mBin gAdd (mBin gMul (mVar 4) (mC (.int 73023))) (mBin gMul (mBin gMul (mC (.int 8019)) (mVar 1)) (mVar 1))) (mC (.int 435))) (aNil))) (mC (.int 2305843009213693921))) (aCons (mC (.int 0)) (aNil))))))))
theorem sat_law_pot : ∀ ds n R RX, S_law_pot ds n R RX → fnM 2 5 m_law_pot ds n (fun s n' => ∃ a b c : Int, s = .own [.int a, .int b, .int c] ∧ Good a b c n' ∧ R (.dat .pot) n') fun _ _ _ => False := by
  intro ds n R RX h
  unfold S_law_pot at h
  split at h
  · rename_i xs place
    obtain ⟨⟨ns, rfl⟩, h1, h2, hR⟩ := h
    refine ⟨rfl, ?_⟩
    simp only [startD, List.map_cons, List.map_nil, List.length_cons, List.length_nil, Nat.reduceAdd, Nat.reduceSub, List.replicate_succ, List.replicate_zero, List.cons_append, List.nil_append]; simp -implicitDefEqProofs [↓m_law_pot, ↓lkK_0, ↓lkK_s, ↓stK_0, ↓stK_s, ↓x_var, ↓x_asg, ↓x_gtN, ↓stSK_c, ↓stSK_n, ↓x_par, ↓wpK_n, ↓wpK_c, ↓x_lc, ↓x_lc2, ↓x_lc2T, ↓x_app, ↓x_ext, ↓x_setI, ↓x_idxV, ↓x_lenV, ↓x_dget, ↓x_din, ↓x_dput, ↓atK_0, ↓atK_1, ↓atK_2, ↓atK_3, ↓atK_m1, ↓atK_m2, ↓atK_m3, ↓atK_m4, ↓x_idxl, ↓x_idxt, ↓x_idxs, ↓x_ret, ↓x_retN, ↓x_seq, ↓x_sif, ↓x_snil, ↓x_exp, ↓x_nev, ↓x_brk, ↓x_cnt, ↓x_sfor, ↓x_moNil, ↓x_moCons, ↓x_asgT, ↓x_gtT, ↓x_gtCons, ↓x_gtNil, ↓x_retV, ↓x_mov, ↓x_c, ↓x_bin, ↓x_un, ↓x_and, ↓x_or, ↓x_not, ↓x_ifE, ↓x_chain, ↓x_cb, ↓x_anil, ↓x_cons, ↓x_star, ↓x_tup, ↓x_lst, ↓x_dic0, ↓x_call, ↓x_callK, ↓x_yes, ↓x_toD, ↓x_toDo, ↓x_toB, ↓x_wT, ↓x_wF, ↓x_wD, ↓x_wN, ↓x_sub, ↓x_mul, ↓x_fdv, ↓x_mod, ↓x_pow, ↓x_lt, ↓x_le, ↓x_gt, ↓x_ge, ↓x_addi, ↓x_adds, ↓x_addt, ↓x_addl, ↓x_eqi, ↓x_nei, ↓x_eqs, ↓x_nes, ↓x_int, ↓x_nit, ↓x_inl, ↓x_nil, ↓x_isN, ↓x_notN, ↓x_neg, ↓x_lens, ↓x_lent, ↓x_lenl, ↓x_abs, ↓x_inti, ↓x_intb, ↓x_max, ↓x_min, ↓x_tofl, ↓x_toft, ↓x_lofl, ↓x_loft, ↓x_iseq, ↓x_sqt, ↓x_sql, ↓x_turn, ↓x_lstR1, ↓x_rg1, ↓x_rg2, ↓x_rgK, ↓x_rgK1, ↓x_rgK2, ↓x_isi_non_int, ↓x_isi_non_bool, ↓x_isi_non_str, ↓x_isi_non_tuple, ↓x_isi_non_list, ↓x_isi_bl_int, ↓x_isi_bl_bool, ↓x_isi_bl_str, ↓x_isi_bl_tuple, ↓x_isi_bl_list, ↓x_isi_int_int, ↓x_isi_int_bool, ↓x_isi_int_str, ↓x_isi_int_tuple, ↓x_isi_int_list, ↓x_isi_str_int, ↓x_isi_str_bool, ↓x_isi_str_str, ↓x_isi_str_tuple, ↓x_isi_str_list, ↓x_isi_tup_int, ↓x_isi_tup_bool, ↓x_isi_tup_str, ↓x_isi_tup_tuple, ↓x_isi_tup_list, ↓x_isi_lst_int, ↓x_isi_lst_bool, ↓x_isi_lst_str, ↓x_isi_lst_tuple, ↓x_isi_lst_list, ↓x_all, ↓x_any, ↓x_sum, ↓x_bln, ↓x_blc, ↓x_itn, ↓x_itc, x_wG, tyD, ↓x_pot0, ↓x_pot1, ↓x_pot2, ↓x_pset0, ↓x_pset2, ↓x_vK, ↓x_cutnn, ↓x_cutns, ↓x_cutsn, ↓x_cutl, ↓x_cutt, ↓x_kyi, ↓x_kys, ↓x_ops, ↓x_kin, ↓x_kidx, ↓x_bm, ↓x_kindl, ↓x_kinds, ↓x_eqb, ↓x_neb, KD_MOST_MOTION, K_QUARTERS]
    refine ⟨fun h => atK_ints h1 h fun v _ => ?_, fun h => ?_⟩
    · simp -implicitDefEqProofs [↓lkK_0, ↓lkK_s, ↓stK_0, ↓stK_s, ↓x_var, ↓x_asg, ↓x_gtN, ↓stSK_c, ↓stSK_n, ↓x_par, ↓wpK_n, ↓wpK_c, ↓x_lc, ↓x_lc2, ↓x_lc2T, ↓x_app, ↓x_ext, ↓x_setI, ↓x_idxV, ↓x_lenV, ↓x_dget, ↓x_din, ↓x_dput, ↓atK_0, ↓atK_1, ↓atK_2, ↓atK_3, ↓atK_m1, ↓atK_m2, ↓atK_m3, ↓atK_m4, ↓x_idxl, ↓x_idxt, ↓x_idxs, ↓x_ret, ↓x_retN, ↓x_seq, ↓x_sif, ↓x_snil, ↓x_exp, ↓x_nev, ↓x_brk, ↓x_cnt, ↓x_sfor, ↓x_moNil, ↓x_moCons, ↓x_asgT, ↓x_gtT, ↓x_gtCons, ↓x_gtNil, ↓x_retV, ↓x_mov, ↓x_c, ↓x_bin, ↓x_un, ↓x_and, ↓x_or, ↓x_not, ↓x_ifE, ↓x_chain, ↓x_cb, ↓x_anil, ↓x_cons, ↓x_star, ↓x_tup, ↓x_lst, ↓x_dic0, ↓x_call, ↓x_callK, ↓x_yes, ↓x_toD, ↓x_toDo, ↓x_toB, ↓x_wT, ↓x_wF, ↓x_wD, ↓x_wN, ↓x_sub, ↓x_mul, ↓x_fdv, ↓x_mod, ↓x_pow, ↓x_lt, ↓x_le, ↓x_gt, ↓x_ge, ↓x_addi, ↓x_adds, ↓x_addt, ↓x_addl, ↓x_eqi, ↓x_nei, ↓x_eqs, ↓x_nes, ↓x_int, ↓x_nit, ↓x_inl, ↓x_nil, ↓x_isN, ↓x_notN, ↓x_neg, ↓x_lens, ↓x_lent, ↓x_lenl, ↓x_abs, ↓x_inti, ↓x_intb, ↓x_max, ↓x_min, ↓x_tofl, ↓x_toft, ↓x_lofl, ↓x_loft, ↓x_iseq, ↓x_sqt, ↓x_sql, ↓x_turn, ↓x_lstR1, ↓x_rg1, ↓x_rg2, ↓x_rgK, ↓x_rgK1, ↓x_rgK2, ↓x_isi_non_int, ↓x_isi_non_bool, ↓x_isi_non_str, ↓x_isi_non_tuple, ↓x_isi_non_list, ↓x_isi_bl_int, ↓x_isi_bl_bool, ↓x_isi_bl_str, ↓x_isi_bl_tuple, ↓x_isi_bl_list, ↓x_isi_int_int, ↓x_isi_int_bool, ↓x_isi_int_str, ↓x_isi_int_tuple, ↓x_isi_int_list, ↓x_isi_str_int, ↓x_isi_str_bool, ↓x_isi_str_str, ↓x_isi_str_tuple, ↓x_isi_str_list, ↓x_isi_tup_int, ↓x_isi_tup_bool, ↓x_isi_tup_str, ↓x_isi_tup_tuple, ↓x_isi_tup_list, ↓x_isi_lst_int, ↓x_isi_lst_bool, ↓x_isi_lst_str, ↓x_isi_lst_tuple, ↓x_isi_lst_list, ↓x_all, ↓x_any, ↓x_sum, ↓x_bln, ↓x_blc, ↓x_itn, ↓x_itc, x_wG, tyD, ↓x_pot0, ↓x_pot1, ↓x_pot2, ↓x_pset0, ↓x_pset2, ↓x_vK, ↓x_cutnn, ↓x_cutns, ↓x_cutsn, ↓x_cutl, ↓x_cutt, ↓x_kyi, ↓x_kys, ↓x_ops, ↓x_kin, ↓x_kidx, ↓x_bm, ↓x_kindl, ↓x_kinds, ↓x_eqb, ↓x_neb, KD_MOST_MOTION, K_QUARTERS]
      refine ⟨by decide, by decide, by decide, .r (by split <;> omega) (by split <;> omega), .r (by omega) (by omega), .l (by omega) (by omega), .r (by omega) (by omega), _, _, _, ⟨rfl, rfl, rfl⟩, ?_, hR⟩
      have q := own_ok (v.natAbs : Int) _ (1000000000000000000 ≤ (v.natAbs : Int)) (show (0 : Int) < 10 ^ 300 by decide) (by decide +kernel)
      exact ⟨q.1, q.2, by omega, by omega, by omega, by omega⟩
    · rw [cut_first, itK_of]
      generalize (ns.take 1).sum % 1000003 = m
      refine ⟨.l (by omega) (by omega), by decide, by decide, by decide, .r (by split <;> omega) (by split <;> omega), .r (by omega) (by omega), .l (by omega) (by omega), .r (by omega) (by omega), _, _, _, ⟨rfl, rfl, rfl⟩, ?_, hR⟩
      have q := fun v : Int => own_ok (v.natAbs : Int) _ (1000000000000000000 ≤ (v.natAbs : Int)) (show (0 : Int) < 10 ^ 300 by decide) (by decide +kernel)
      exact ⟨(q _).1, (q _).2, by omega, by omega, by omega, by omega⟩
  · exact h.elim

def S_law_take : SpD := fun ds n R _ => match ds with
  | [.pot, .int k] => 1 ≤ k ∧ k < 2 ^ 200 ∧ n ≤ 1000000 ∧ ∀ (v : Int) (n' : Nat), 0 ≤ v → v < k → n ≤ n' → n' ≤ n + 1 → R (.dat (.int v)) n'
  | _ => False

def m_law_take : MS := sSeq (sIf (mBin gGt (mPotIdx 0 (mC (.int 0))) (mC (.int 0))) (sSeq (sAsg 2 (mBin gMod (mCB gInt (aCons (mPotIdx 0 (mC (.int 0))) (aNil))) (mVar 1))) (sSeq (sPotSet 0 (mBin gFdv (mPotIdx 0 (mC (.int 0))) (mVar 1)) (mC (.int 0))) (sRet (mVar 2)))) (sNil)) (sSeq (sPotSet 0 (mBin gAdd (mPotIdx 0 (mC (.int 2))) (mC (.int 1))) (mC (.int 2))) (sSeq (sAsg 3 (mBin gIdx (mLst (aCons (mC (.int 2147483647)) (aCons (mC (.int 2147483629)) (aCons (mC (.int 2147483587)) (aCons (mC (.int 2147483579)) (aCons (mC (.int 2147483563)) (aNil))))))) (mBin gMod (mCB gInt (aCons (mPotIdx 0 (mC (.int 2))) (aNil))) (mC (.int 5))))) (sSeq (sAsg 4 (mBin gMod (mCB gInt (aCons (mBin gPow (mCB gInt (aCons (mBin gAdd (mBin gAdd (mPotIdx 0 (mC (.int 1))) (mBin gMul (mBin gMul (mC (.int 98183)) (mPotIdx 0 (mC (.int 2)))) (mPotIdx 0 (mC (.int 2))))) (mC (.int 419))) (aNil))) (mC (.int 3))) (aNil))) (mVar 3))) (sSeq (sAsg 4 (mBin gMod (mCB gInt (aCons (mBin gMul (mVar 4) (mBin gAdd (mBin gMod (mCB gInt (aCons (mVar 4) (aNil))) (mC (.int 10009))) (mBin gMul (mC (.int 87)) (mPotIdx 0 (mC (.int 2)))))) (aNil))) (mC (.int 2305843009213693907)))) (sRet (mBin gMod (mCB gInt (aCons (mBin gFdv (mVar 4) (mC (.int 167))) (aNil))) (mVar 1)))))))
theorem sat_law_take : ∀ ds n R RX, S_law_take ds n R RX → fnM 2 5 m_law_take ds n R fun _ _ _ => False := by
  intro ds n R RX h
  unfold S_law_take at h
  split at h
  · rename_i k
    obtain ⟨h1, h2, h3, hR⟩ := h
    refine ⟨rfl, ?_⟩
    simp only [startD, List.map_cons, List.map_nil, List.length_cons, List.length_nil, Nat.reduceAdd, Nat.reduceSub, List.replicate_succ, List.replicate_zero, List.cons_append, List.nil_append]; simp -implicitDefEqProofs [↓m_law_take, ↓lkK_0, ↓lkK_s, ↓stK_0, ↓stK_s, ↓x_var, ↓x_asg, ↓x_gtN, ↓stSK_c, ↓stSK_n, ↓x_par, ↓wpK_n, ↓wpK_c, ↓x_lc, ↓x_lc2, ↓x_lc2T, ↓x_app, ↓x_ext, ↓x_setI, ↓x_idxV, ↓x_lenV, ↓x_dget, ↓x_din, ↓x_dput, ↓atK_0, ↓atK_1, ↓atK_2, ↓atK_3, ↓atK_m1, ↓atK_m2, ↓atK_m3, ↓atK_m4, ↓x_idxl, ↓x_idxt, ↓x_idxs, ↓x_ret, ↓x_retN, ↓x_seq, ↓x_sif, ↓x_snil, ↓x_exp, ↓x_nev, ↓x_brk, ↓x_cnt, ↓x_sfor, ↓x_moNil, ↓x_moCons, ↓x_asgT, ↓x_gtT, ↓x_gtCons, ↓x_gtNil, ↓x_retV, ↓x_mov, ↓x_c, ↓x_bin, ↓x_un, ↓x_and, ↓x_or, ↓x_not, ↓x_ifE, ↓x_chain, ↓x_cb, ↓x_anil, ↓x_cons, ↓x_star, ↓x_tup, ↓x_lst, ↓x_dic0, ↓x_call, ↓x_callK, ↓x_yes, ↓x_toD, ↓x_toDo, ↓x_toB, ↓x_wT, ↓x_wF, ↓x_wD, ↓x_wN, ↓x_sub, ↓x_mul, ↓x_fdv, ↓x_mod, ↓x_pow, ↓x_lt, ↓x_le, ↓x_gt, ↓x_ge, ↓x_addi, ↓x_adds, ↓x_addt, ↓x_addl, ↓x_eqi, ↓x_nei, ↓x_eqs, ↓x_nes, ↓x_int, ↓x_nit, ↓x_inl, ↓x_nil, ↓x_isN, ↓x_notN, ↓x_neg, ↓x_lens, ↓x_lent, ↓x_lenl, ↓x_abs, ↓x_inti, ↓x_intb, ↓x_max, ↓x_min, ↓x_tofl, ↓x_toft, ↓x_lofl, ↓x_loft, ↓x_iseq, ↓x_sqt, ↓x_sql, ↓x_turn, ↓x_lstR1, ↓x_rg1, ↓x_rg2, ↓x_rgK, ↓x_rgK1, ↓x_rgK2, ↓x_isi_non_int, ↓x_isi_non_bool, ↓x_isi_non_str, ↓x_isi_non_tuple, ↓x_isi_non_list, ↓x_isi_bl_int, ↓x_isi_bl_bool, ↓x_isi_bl_str, ↓x_isi_bl_tuple, ↓x_isi_bl_list, ↓x_isi_int_int, ↓x_isi_int_bool, ↓x_isi_int_str, ↓x_isi_int_tuple, ↓x_isi_int_list, ↓x_isi_str_int, ↓x_isi_str_bool, ↓x_isi_str_str, ↓x_isi_str_tuple, ↓x_isi_str_list, ↓x_isi_tup_int, ↓x_isi_tup_bool, ↓x_isi_tup_str, ↓x_isi_tup_tuple, ↓x_isi_tup_list, ↓x_isi_lst_int, ↓x_isi_lst_bool, ↓x_isi_lst_str, ↓x_isi_lst_tuple, ↓x_isi_lst_list, ↓x_all, ↓x_any, ↓x_sum, ↓x_bln, ↓x_blc, ↓x_itn, ↓x_itc, x_wG, tyD, ↓x_pot0, ↓x_pot1, ↓x_pot2, ↓x_pset0, ↓x_pset2, ↓x_vK, ↓x_cutnn, ↓x_cutns, ↓x_cutsn, ↓x_cutl, ↓x_cutt, ↓x_kyi, ↓x_kys, ↓x_ops, ↓x_kin, ↓x_kidx, ↓x_bm, ↓x_kindl, ↓x_kinds, ↓x_eqb, ↓x_neb, KD_MOST_MOTION, K_QUARTERS]
    intro x x0 x1
    refine ⟨fun hp y y0 y1 => ⟨by omega, fun z z0 z1 => ⟨log2_200 h1 h2, (div_pot h1 z0 z1).1, (div_pot h1 z0 z1).2, hR _ n (mod_in h1).1 (mod_in h1).2 (Nat.le_refl _) (Nat.le_succ _)⟩⟩, fun hp y y0 y1 => ⟨by omega, y1, fun z z0 z1 => ?_⟩⟩
    refine atK_mem (by omega) (by simp; omega) fun d hd => ?_
    obtain ⟨p, rfl, p0, p1⟩ : ∃ p, d = .int p ∧ 0 < p ∧ p < 2 ^ 32 := by
      simp at hd
      rcases hd with rfl | rfl | rfl | rfl | rfl <;> exact ⟨_, rfl, by decide, by decide⟩
    simp -implicitDefEqProofs [↓lkK_0, ↓lkK_s, ↓stK_0, ↓stK_s, ↓x_var, ↓x_asg, ↓x_gtN, ↓stSK_c, ↓stSK_n, ↓x_par, ↓wpK_n, ↓wpK_c, ↓x_lc, ↓x_lc2, ↓x_lc2T, ↓x_app, ↓x_ext, ↓x_setI, ↓x_idxV, ↓x_lenV, ↓x_dget, ↓x_din, ↓x_dput, ↓atK_0, ↓atK_1, ↓atK_2, ↓atK_3, ↓atK_m1, ↓atK_m2, ↓atK_m3, ↓atK_m4, ↓x_idxl, ↓x_idxt, ↓x_idxs, ↓x_ret, ↓x_retN, ↓x_seq, ↓x_sif, ↓x_snil, ↓x_exp, ↓x_nev, ↓x_brk, ↓x_cnt, ↓x_sfor, ↓x_moNil, ↓x_moCons, ↓x_asgT, ↓x_gtT, ↓x_gtCons, ↓x_gtNil, ↓x_retV, ↓x_mov, ↓x_c, ↓x_bin, ↓x_un, ↓x_and, ↓x_or, ↓x_not, ↓x_ifE, ↓x_chain, ↓x_cb, ↓x_anil, ↓x_cons, ↓x_star, ↓x_tup, ↓x_lst, ↓x_dic0, ↓x_call, ↓x_callK, ↓x_yes, ↓x_toD, ↓x_toDo, ↓x_toB, ↓x_wT, ↓x_wF, ↓x_wD, ↓x_wN, ↓x_sub, ↓x_mul, ↓x_fdv, ↓x_mod, ↓x_pow, ↓x_lt, ↓x_le, ↓x_gt, ↓x_ge, ↓x_addi, ↓x_adds, ↓x_addt, ↓x_addl, ↓x_eqi, ↓x_nei, ↓x_eqs, ↓x_nes, ↓x_int, ↓x_nit, ↓x_inl, ↓x_nil, ↓x_isN, ↓x_notN, ↓x_neg, ↓x_lens, ↓x_lent, ↓x_lenl, ↓x_abs, ↓x_inti, ↓x_intb, ↓x_max, ↓x_min, ↓x_tofl, ↓x_toft, ↓x_lofl, ↓x_loft, ↓x_iseq, ↓x_sqt, ↓x_sql, ↓x_turn, ↓x_lstR1, ↓x_rg1, ↓x_rg2, ↓x_rgK, ↓x_rgK1, ↓x_rgK2, ↓x_isi_non_int, ↓x_isi_non_bool, ↓x_isi_non_str, ↓x_isi_non_tuple, ↓x_isi_non_list, ↓x_isi_bl_int, ↓x_isi_bl_bool, ↓x_isi_bl_str, ↓x_isi_bl_tuple, ↓x_isi_bl_list, ↓x_isi_int_int, ↓x_isi_int_bool, ↓x_isi_int_str, ↓x_isi_int_tuple, ↓x_isi_int_list, ↓x_isi_str_int, ↓x_isi_str_bool, ↓x_isi_str_str, ↓x_isi_str_tuple, ↓x_isi_str_list, ↓x_isi_tup_int, ↓x_isi_tup_bool, ↓x_isi_tup_str, ↓x_isi_tup_tuple, ↓x_isi_tup_list, ↓x_isi_lst_int, ↓x_isi_lst_bool, ↓x_isi_lst_str, ↓x_isi_lst_tuple, ↓x_isi_lst_list, ↓x_all, ↓x_any, ↓x_sum, ↓x_bln, ↓x_blc, ↓x_itn, ↓x_itc, x_wG, tyD, ↓x_pot0, ↓x_pot1, ↓x_pot2, ↓x_pset0, ↓x_pset2, ↓x_vK, ↓x_cutnn, ↓x_cutns, ↓x_cutsn, ↓x_cutl, ↓x_cutt, ↓x_kyi, ↓x_kys, ↓x_ops, ↓x_kin, ↓x_kidx, ↓x_bm, ↓x_kindl, ↓x_kinds, ↓x_eqb, ↓x_neb, KD_MOST_MOTION, K_QUARTERS]
    intro a a0 a1 b b0 b1
    refine ⟨.l (by omega) (by omega), fun c c0 c1 => ?_⟩
    have q := mul_bd (a := b) (b := c) (A := 1000001) (B := 1000001) b0 (by omega) c0 (by omega)
    rw [Int.mul_assoc _ b c]
    refine ⟨.r (by omega) (by omega), bits3 (by omega) (by omega) 3 (by decide) (by decide), p0, ?_⟩
    intro t t0 t1
    exact ⟨.l (by omega) (by omega), .modl p0 (by omega), by decide, by omega, hR _ _ (mod_in h1).1 (mod_in h1).2 (Nat.le_succ _) (Nat.le_refl _)⟩
  · exact h.elim

def S_law_of : SpD := fun ds n R _ => match ds with
  | [.pot, .lst xs] => 1 ≤ xs.length ∧ xs.length ≤ 1000000 ∧ n ≤ 1000000 ∧ ∀ (d : D) (n' : Nat), d ∈ xs → n ≤ n' → n' ≤ n + 1 → R (.dat d) n'
  | _ => False

def m_law_of : MS := sRet (mBin gIdx (mVar 1) (mCall S_law_take (aCons (mVar 0) (aCons (mCB gLen (aCons (mVar 1) (aNil))) (aNil)))))
theorem sat_law_of : ∀ ds n R RX, S_law_of ds n R RX → fnM 2 2 m_law_of ds n R fun _ _ _ => False := by
  intro ds n R RX h
  unfold S_law_of at h
  split at h
  · rename_i xs
    obtain ⟨h1, h2, h3, hR⟩ := h
    refine ⟨rfl, ?_⟩
    simp only [startD, List.map_cons, List.map_nil, List.length_cons, List.length_nil, Nat.reduceAdd, Nat.reduceSub, List.replicate_succ, List.replicate_zero, List.cons_append, List.nil_append]; simp -implicitDefEqProofs [↓m_law_of, ↓S_law_take, ↓lkK_0, ↓lkK_s, ↓stK_0, ↓stK_s, ↓x_var, ↓x_asg, ↓x_gtN, ↓stSK_c, ↓stSK_n, ↓x_par, ↓wpK_n, ↓wpK_c, ↓x_lc, ↓x_lc2, ↓x_lc2T, ↓x_app, ↓x_ext, ↓x_setI, ↓x_idxV, ↓x_lenV, ↓x_dget, ↓x_din, ↓x_dput, ↓atK_0, ↓atK_1, ↓atK_2, ↓atK_3, ↓atK_m1, ↓atK_m2, ↓atK_m3, ↓atK_m4, ↓x_idxl, ↓x_idxt, ↓x_idxs, ↓x_ret, ↓x_retN, ↓x_seq, ↓x_sif, ↓x_snil, ↓x_exp, ↓x_nev, ↓x_brk, ↓x_cnt, ↓x_sfor, ↓x_moNil, ↓x_moCons, ↓x_asgT, ↓x_gtT, ↓x_gtCons, ↓x_gtNil, ↓x_retV, ↓x_mov, ↓x_c, ↓x_bin, ↓x_un, ↓x_and, ↓x_or, ↓x_not, ↓x_ifE, ↓x_chain, ↓x_cb, ↓x_anil, ↓x_cons, ↓x_star, ↓x_tup, ↓x_lst, ↓x_dic0, ↓x_call, ↓x_callK, ↓x_yes, ↓x_toD, ↓x_toDo, ↓x_toB, ↓x_wT, ↓x_wF, ↓x_wD, ↓x_wN, ↓x_sub, ↓x_mul, ↓x_fdv, ↓x_mod, ↓x_pow, ↓x_lt, ↓x_le, ↓x_gt, ↓x_ge, ↓x_addi, ↓x_adds, ↓x_addt, ↓x_addl, ↓x_eqi, ↓x_nei, ↓x_eqs, ↓x_nes, ↓x_int, ↓x_nit, ↓x_inl, ↓x_nil, ↓x_isN, ↓x_notN, ↓x_neg, ↓x_lens, ↓x_lent, ↓x_lenl, ↓x_abs, ↓x_inti, ↓x_intb, ↓x_max, ↓x_min, ↓x_tofl, ↓x_toft, ↓x_lofl, ↓x_loft, ↓x_iseq, ↓x_sqt, ↓x_sql, ↓x_turn, ↓x_lstR1, ↓x_rg1, ↓x_rg2, ↓x_rgK, ↓x_rgK1, ↓x_rgK2, ↓x_isi_non_int, ↓x_isi_non_bool, ↓x_isi_non_str, ↓x_isi_non_tuple, ↓x_isi_non_list, ↓x_isi_bl_int, ↓x_isi_bl_bool, ↓x_isi_bl_str, ↓x_isi_bl_tuple, ↓x_isi_bl_list, ↓x_isi_int_int, ↓x_isi_int_bool, ↓x_isi_int_str, ↓x_isi_int_tuple, ↓x_isi_int_list, ↓x_isi_str_int, ↓x_isi_str_bool, ↓x_isi_str_str, ↓x_isi_str_tuple, ↓x_isi_str_list, ↓x_isi_tup_int, ↓x_isi_tup_bool, ↓x_isi_tup_str, ↓x_isi_tup_tuple, ↓x_isi_tup_list, ↓x_isi_lst_int, ↓x_isi_lst_bool, ↓x_isi_lst_str, ↓x_isi_lst_tuple, ↓x_isi_lst_list, ↓x_all, ↓x_any, ↓x_sum, ↓x_bln, ↓x_blc, ↓x_itn, ↓x_itc, x_wG, tyD, ↓x_pot0, ↓x_pot1, ↓x_pot2, ↓x_pset0, ↓x_pset2, ↓x_vK, ↓x_cutnn, ↓x_cutns, ↓x_cutsn, ↓x_cutl, ↓x_cutt, ↓x_kyi, ↓x_kys, ↓x_ops, ↓x_kin, ↓x_kidx, ↓x_bm, ↓x_kindl, ↓x_kinds, ↓x_eqb, ↓x_neb, KD_MOST_MOTION, K_QUARTERS]
    refine ⟨by omega, by omega, h3, fun v n' a1 a2 a3 a4 => ?_⟩
    exact atK_mem a1 a2 fun d hd => hR d n' hd a3 a4
  · exact h.elim

def S_law_cells : SpD := fun ds n R _ => ∃ (ns : List Int) (m : Int), ds = [.lst (ns.map D.int), .int m] ∧ 1 ≤ m ∧ m ≤ 100 ∧ ∀ k : Int, 1 ≤ k → k ≤ m → R (.own (rngD 0 k)) n

def m_law_cells : MS := sRet (mLstR1 (mCB gMax (aCons (mC (.int 1)) (aCons (mCB gMin (aCons (mVar 1) (aCons (mCB gLen (aCons (mVar 0) (aNil))) (aNil)))) (aNil)))))
theorem sat_law_cells : ∀ ds n R RX, S_law_cells ds n R RX → fnM 2 2 m_law_cells ds n R fun _ _ _ => False := by
  rintro _ n R RX ⟨ns, m, rfl, h1, h2, hR⟩
  refine ⟨rfl, ?_⟩
  simp only [startD, List.map_cons, List.map_nil, List.length_cons, List.length_nil, Nat.reduceAdd, Nat.reduceSub, List.replicate_succ, List.replicate_zero, List.cons_append, List.nil_append]; simp -implicitDefEqProofs [↓m_law_cells, ↓lkK_0, ↓lkK_s, ↓stK_0, ↓stK_s, ↓x_var, ↓x_asg, ↓x_gtN, ↓stSK_c, ↓stSK_n, ↓x_par, ↓wpK_n, ↓wpK_c, ↓x_lc, ↓x_lc2, ↓x_lc2T, ↓x_app, ↓x_ext, ↓x_setI, ↓x_idxV, ↓x_lenV, ↓x_dget, ↓x_din, ↓x_dput, ↓atK_0, ↓atK_1, ↓atK_2, ↓atK_3, ↓atK_m1, ↓atK_m2, ↓atK_m3, ↓atK_m4, ↓x_idxl, ↓x_idxt, ↓x_idxs, ↓x_ret, ↓x_retN, ↓x_seq, ↓x_sif, ↓x_snil, ↓x_exp, ↓x_nev, ↓x_brk, ↓x_cnt, ↓x_sfor, ↓x_moNil, ↓x_moCons, ↓x_asgT, ↓x_gtT, ↓x_gtCons, ↓x_gtNil, ↓x_retV, ↓x_mov, ↓x_c, ↓x_bin, ↓x_un, ↓x_and, ↓x_or, ↓x_not, ↓x_ifE, ↓x_chain, ↓x_cb, ↓x_anil, ↓x_cons, ↓x_star, ↓x_tup, ↓x_lst, ↓x_dic0, ↓x_call, ↓x_callK, ↓x_yes, ↓x_toD, ↓x_toDo, ↓x_toB, ↓x_wT, ↓x_wF, ↓x_wD, ↓x_wN, ↓x_sub, ↓x_mul, ↓x_fdv, ↓x_mod, ↓x_pow, ↓x_lt, ↓x_le, ↓x_gt, ↓x_ge, ↓x_addi, ↓x_adds, ↓x_addt, ↓x_addl, ↓x_eqi, ↓x_nei, ↓x_eqs, ↓x_nes, ↓x_int, ↓x_nit, ↓x_inl, ↓x_nil, ↓x_isN, ↓x_notN, ↓x_neg, ↓x_lens, ↓x_lent, ↓x_lenl, ↓x_abs, ↓x_inti, ↓x_intb, ↓x_max, ↓x_min, ↓x_tofl, ↓x_toft, ↓x_lofl, ↓x_loft, ↓x_iseq, ↓x_sqt, ↓x_sql, ↓x_turn, ↓x_lstR1, ↓x_rg1, ↓x_rg2, ↓x_rgK, ↓x_rgK1, ↓x_rgK2, ↓x_isi_non_int, ↓x_isi_non_bool, ↓x_isi_non_str, ↓x_isi_non_tuple, ↓x_isi_non_list, ↓x_isi_bl_int, ↓x_isi_bl_bool, ↓x_isi_bl_str, ↓x_isi_bl_tuple, ↓x_isi_bl_list, ↓x_isi_int_int, ↓x_isi_int_bool, ↓x_isi_int_str, ↓x_isi_int_tuple, ↓x_isi_int_list, ↓x_isi_str_int, ↓x_isi_str_bool, ↓x_isi_str_str, ↓x_isi_str_tuple, ↓x_isi_str_list, ↓x_isi_tup_int, ↓x_isi_tup_bool, ↓x_isi_tup_str, ↓x_isi_tup_tuple, ↓x_isi_tup_list, ↓x_isi_lst_int, ↓x_isi_lst_bool, ↓x_isi_lst_str, ↓x_isi_lst_tuple, ↓x_isi_lst_list, ↓x_all, ↓x_any, ↓x_sum, ↓x_bln, ↓x_blc, ↓x_itn, ↓x_itc, x_wG, tyD, ↓x_pot0, ↓x_pot1, ↓x_pot2, ↓x_pset0, ↓x_pset2, ↓x_vK, ↓x_cutnn, ↓x_cutns, ↓x_cutsn, ↓x_cutl, ↓x_cutt, ↓x_kyi, ↓x_kys, ↓x_ops, ↓x_kin, ↓x_kidx, ↓x_bm, ↓x_kindl, ↓x_kinds, ↓x_eqb, ↓x_neb, KD_MOST_MOTION, K_QUARTERS]
  exact ⟨by omega, by omega, hR _ (by omega) (by omega)⟩

def S_law_led : SpD := fun ds n R _ => ∃ (m low : Int) (l : List Int), ds = [.int m, .int low, tupI l] ∧ ((l.length = 1 ∧ (m = 0 ∨ m = 1)) ∨ l.length = 2) ∧ 0 ≤ m ∧ m < 8 ∧ R (.dat (tupI (ledL m low l))) n

def m_law_led : MS := sSeq (sIf (mBin (gEq false) (mCB gLen (aCons (mVar 2) (aNil))) (mC (.int 1))) (sRet (mIfE (mBin (gEq false) (mVar 0) (mC (.int 1))) (mTup (aCons (mBin PL.gSub (mVar 1) (mBin gIdx (mVar 2) (mC (.int 0)))) (aNil))) (mVar 2))) (sNil)) (sSeq (sAsgT (gtT 2 (gtCons (gtN 3) (gtCons (gtN 4) (gtNil)))) (mIfE (mBin gGt (mVar 0) (mC (.int 3))) (mTup (aCons (mBin PL.gSub (mVar 1) (mBin gIdx (mVar 2) (mC (.int 0)))) (aCons (mBin gIdx (mVar 2) (mC (.int 1))) (aNil)))) (mVar 2))) (sSeq (sFor (iRg1 (aCons (mBin gMod (mCB gInt (aCons (mVar 0) (aNil))) (mC (.int 4))) (aNil))) (gtN 5) (sParN [3, 4] (moCons (mBin PL.gSub (mVar 1) (mVar 4)) (moCons (mVar 3) (moNil))))) (sRet (mTup (aCons (mVar 3) (aCons (mVar 4) (aNil)))))))
theorem sat_law_led : ∀ ds n R RX, S_law_led ds n R RX → fnM 3 6 m_law_led ds n R fun _ _ _ => False := by
  rintro _ n R RX ⟨m, low, l, rfl, hl, m0, m8, hR⟩
  refine ⟨rfl, ?_⟩
  simp only [tupI] at *
  rcases hl with ⟨hl, hm⟩ | hl
  · obtain ⟨a, rfl⟩ : ∃ a, l = [a] := by
      match l, hl with
      | [a], _ => exact ⟨a, rfl⟩
    simp only [startD, List.map_cons, List.map_nil, List.length_cons, List.length_nil, Nat.reduceAdd, Nat.reduceSub, List.replicate_succ, List.replicate_zero, List.cons_append, List.nil_append]; simp -implicitDefEqProofs [↓m_law_led, ↓lkK_0, ↓lkK_s, ↓stK_0, ↓stK_s, ↓x_var, ↓x_asg, ↓x_gtN, ↓stSK_c, ↓stSK_n, ↓x_par, ↓wpK_n, ↓wpK_c, ↓x_lc, ↓x_lc2, ↓x_lc2T, ↓x_app, ↓x_ext, ↓x_setI, ↓x_idxV, ↓x_lenV, ↓x_dget, ↓x_din, ↓x_dput, ↓atK_0, ↓atK_1, ↓atK_2, ↓atK_3, ↓atK_m1, ↓atK_m2, ↓atK_m3, ↓atK_m4, ↓x_idxl, ↓x_idxt, ↓x_idxs, ↓x_ret, ↓x_retN, ↓x_seq, ↓x_sif, ↓x_snil, ↓x_exp, ↓x_nev, ↓x_brk, ↓x_cnt, ↓x_sfor, ↓x_moNil, ↓x_moCons, ↓x_asgT, ↓x_gtT, ↓x_gtCons, ↓x_gtNil, ↓x_retV, ↓x_mov, ↓x_c, ↓x_bin, ↓x_un, ↓x_and, ↓x_or, ↓x_not, ↓x_ifE, ↓x_chain, ↓x_cb, ↓x_anil, ↓x_cons, ↓x_star, ↓x_tup, ↓x_lst, ↓x_dic0, ↓x_call, ↓x_callK, ↓x_yes, ↓x_toD, ↓x_toDo, ↓x_toB, ↓x_wT, ↓x_wF, ↓x_wD, ↓x_wN, ↓x_sub, ↓x_mul, ↓x_fdv, ↓x_mod, ↓x_pow, ↓x_lt, ↓x_le, ↓x_gt, ↓x_ge, ↓x_addi, ↓x_adds, ↓x_addt, ↓x_addl, ↓x_eqi, ↓x_nei, ↓x_eqs, ↓x_nes, ↓x_int, ↓x_nit, ↓x_inl, ↓x_nil, ↓x_isN, ↓x_notN, ↓x_neg, ↓x_lens, ↓x_lent, ↓x_lenl, ↓x_abs, ↓x_inti, ↓x_intb, ↓x_max, ↓x_min, ↓x_tofl, ↓x_toft, ↓x_lofl, ↓x_loft, ↓x_iseq, ↓x_sqt, ↓x_sql, ↓x_turn, ↓x_lstR1, ↓x_rg1, ↓x_rg2, ↓x_rgK, ↓x_rgK1, ↓x_rgK2, ↓x_isi_non_int, ↓x_isi_non_bool, ↓x_isi_non_str, ↓x_isi_non_tuple, ↓x_isi_non_list, ↓x_isi_bl_int, ↓x_isi_bl_bool, ↓x_isi_bl_str, ↓x_isi_bl_tuple, ↓x_isi_bl_list, ↓x_isi_int_int, ↓x_isi_int_bool, ↓x_isi_int_str, ↓x_isi_int_tuple, ↓x_isi_int_list, ↓x_isi_str_int, ↓x_isi_str_bool, ↓x_isi_str_str, ↓x_isi_str_tuple, ↓x_isi_str_list, ↓x_isi_tup_int, ↓x_isi_tup_bool, ↓x_isi_tup_str, ↓x_isi_tup_tuple, ↓x_isi_tup_list, ↓x_isi_lst_int, ↓x_isi_lst_bool, ↓x_isi_lst_str, ↓x_isi_lst_tuple, ↓x_isi_lst_list, ↓x_all, ↓x_any, ↓x_sum, ↓x_bln, ↓x_blc, ↓x_itn, ↓x_itc, x_wG, tyD, ↓x_pot0, ↓x_pot1, ↓x_pot2, ↓x_pset0, ↓x_pset2, ↓x_vK, ↓x_cutnn, ↓x_cutns, ↓x_cutsn, ↓x_cutl, ↓x_cutt, ↓x_kyi, ↓x_kys, ↓x_ops, ↓x_kin, ↓x_kidx, ↓x_bm, ↓x_kindl, ↓x_kinds, ↓x_eqb, ↓x_neb, KD_MOST_MOTION, K_QUARTERS]
    refine ⟨fun h => by simpa [ledL, h] using hR, fun h => by simpa [ledL, show m = 0 by omega] using hR⟩
  · obtain ⟨a, b, rfl⟩ : ∃ a b, l = [a, b] := by
      match l, hl with
      | [a, b], _ => exact ⟨a, b, rfl⟩
    have main : ∀ (x y : Int) (s5 : S), rotI low (m % 4).toNat (x, y) = ledP m low (a, b) → forL (gtN 5) (sParN [3, 4] (moCons (mBin PL.gSub (mVar 1) (mVar 4)) (moCons (mVar 3) moNil)))
        { nx := sRet (mTup (aCons (mVar 3) (aCons (mVar 4) aNil))) { nx := fun x n' => R (.dat .non) n', rt := fun s x n' => R s n', ex := fun _ _ _ => False }, rt := fun s x n' => R s n', ex := fun _ _ _ => False }
        (rngD 0 (m % 4)) [.dat (.int m), .dat (.int low), .dat (.tup [.int a, .int b]), .dat (.int x), .dat (.int y), s5] n := by
      intro x y s5 hxy
      refine forL_ind (fun ds ρ n' => ∃ x y s5, ρ = [.dat (.int m), .dat (.int low), .dat (.tup [.int a, .int b]), .dat (.int x), .dat (.int y), s5] ∧ n' = n ∧ rotI low ds.length (x, y) = ledP m low (a, b)) ?_ ?_ _ _ _ ⟨x, y, s5, rfl, rfl, by simpa [rngD] using hxy⟩
      · rintro ρ n' ⟨x, y, s5, rfl, rfl, h⟩
        have h' : (x, y) = ledP m low (a, b) := h
        simp -implicitDefEqProofs [↓lkK_0, ↓lkK_s, ↓stK_0, ↓stK_s, ↓x_var, ↓x_asg, ↓x_gtN, ↓stSK_c, ↓stSK_n, ↓x_par, ↓wpK_n, ↓wpK_c, ↓x_lc, ↓x_lc2, ↓x_lc2T, ↓x_app, ↓x_ext, ↓x_setI, ↓x_idxV, ↓x_lenV, ↓x_dget, ↓x_din, ↓x_dput, ↓atK_0, ↓atK_1, ↓atK_2, ↓atK_3, ↓atK_m1, ↓atK_m2, ↓atK_m3, ↓atK_m4, ↓x_idxl, ↓x_idxt, ↓x_idxs, ↓x_ret, ↓x_retN, ↓x_seq, ↓x_sif, ↓x_snil, ↓x_exp, ↓x_nev, ↓x_brk, ↓x_cnt, ↓x_sfor, ↓x_moNil, ↓x_moCons, ↓x_asgT, ↓x_gtT, ↓x_gtCons, ↓x_gtNil, ↓x_retV, ↓x_mov, ↓x_c, ↓x_bin, ↓x_un, ↓x_and, ↓x_or, ↓x_not, ↓x_ifE, ↓x_chain, ↓x_cb, ↓x_anil, ↓x_cons, ↓x_star, ↓x_tup, ↓x_lst, ↓x_dic0, ↓x_call, ↓x_callK, ↓x_yes, ↓x_toD, ↓x_toDo, ↓x_toB, ↓x_wT, ↓x_wF, ↓x_wD, ↓x_wN, ↓x_sub, ↓x_mul, ↓x_fdv, ↓x_mod, ↓x_pow, ↓x_lt, ↓x_le, ↓x_gt, ↓x_ge, ↓x_addi, ↓x_adds, ↓x_addt, ↓x_addl, ↓x_eqi, ↓x_nei, ↓x_eqs, ↓x_nes, ↓x_int, ↓x_nit, ↓x_inl, ↓x_nil, ↓x_isN, ↓x_notN, ↓x_neg, ↓x_lens, ↓x_lent, ↓x_lenl, ↓x_abs, ↓x_inti, ↓x_intb, ↓x_max, ↓x_min, ↓x_tofl, ↓x_toft, ↓x_lofl, ↓x_loft, ↓x_iseq, ↓x_sqt, ↓x_sql, ↓x_turn, ↓x_lstR1, ↓x_rg1, ↓x_rg2, ↓x_rgK, ↓x_rgK1, ↓x_rgK2, ↓x_isi_non_int, ↓x_isi_non_bool, ↓x_isi_non_str, ↓x_isi_non_tuple, ↓x_isi_non_list, ↓x_isi_bl_int, ↓x_isi_bl_bool, ↓x_isi_bl_str, ↓x_isi_bl_tuple, ↓x_isi_bl_list, ↓x_isi_int_int, ↓x_isi_int_bool, ↓x_isi_int_str, ↓x_isi_int_tuple, ↓x_isi_int_list, ↓x_isi_str_int, ↓x_isi_str_bool, ↓x_isi_str_str, ↓x_isi_str_tuple, ↓x_isi_str_list, ↓x_isi_tup_int, ↓x_isi_tup_bool, ↓x_isi_tup_str, ↓x_isi_tup_tuple, ↓x_isi_tup_list, ↓x_isi_lst_int, ↓x_isi_lst_bool, ↓x_isi_lst_str, ↓x_isi_lst_tuple, ↓x_isi_lst_list, ↓x_all, ↓x_any, ↓x_sum, ↓x_bln, ↓x_blc, ↓x_itn, ↓x_itc, x_wG, tyD, ↓x_pot0, ↓x_pot1, ↓x_pot2, ↓x_pset0, ↓x_pset2, ↓x_vK, ↓x_cutnn, ↓x_cutns, ↓x_cutsn, ↓x_cutl, ↓x_cutt, ↓x_kyi, ↓x_kys, ↓x_ops, ↓x_kin, ↓x_kidx, ↓x_bm, ↓x_kindl, ↓x_kinds, ↓x_eqb, ↓x_neb, KD_MOST_MOTION, K_QUARTERS]
        simpa [ledL, ← h'] using hR
      · rintro d ds ρ n' K hK ⟨x, y, s5, rfl, rfl, h⟩
        simp -implicitDefEqProofs [↓lkK_0, ↓lkK_s, ↓stK_0, ↓stK_s, ↓x_var, ↓x_asg, ↓x_gtN, ↓stSK_c, ↓stSK_n, ↓x_par, ↓wpK_n, ↓wpK_c, ↓x_lc, ↓x_lc2, ↓x_lc2T, ↓x_app, ↓x_ext, ↓x_setI, ↓x_idxV, ↓x_lenV, ↓x_dget, ↓x_din, ↓x_dput, ↓atK_0, ↓atK_1, ↓atK_2, ↓atK_3, ↓atK_m1, ↓atK_m2, ↓atK_m3, ↓atK_m4, ↓x_idxl, ↓x_idxt, ↓x_idxs, ↓x_ret, ↓x_retN, ↓x_seq, ↓x_sif, ↓x_snil, ↓x_exp, ↓x_nev, ↓x_brk, ↓x_cnt, ↓x_sfor, ↓x_moNil, ↓x_moCons, ↓x_asgT, ↓x_gtT, ↓x_gtCons, ↓x_gtNil, ↓x_retV, ↓x_mov, ↓x_c, ↓x_bin, ↓x_un, ↓x_and, ↓x_or, ↓x_not, ↓x_ifE, ↓x_chain, ↓x_cb, ↓x_anil, ↓x_cons, ↓x_star, ↓x_tup, ↓x_lst, ↓x_dic0, ↓x_call, ↓x_callK, ↓x_yes, ↓x_toD, ↓x_toDo, ↓x_toB, ↓x_wT, ↓x_wF, ↓x_wD, ↓x_wN, ↓x_sub, ↓x_mul, ↓x_fdv, ↓x_mod, ↓x_pow, ↓x_lt, ↓x_le, ↓x_gt, ↓x_ge, ↓x_addi, ↓x_adds, ↓x_addt, ↓x_addl, ↓x_eqi, ↓x_nei, ↓x_eqs, ↓x_nes, ↓x_int, ↓x_nit, ↓x_inl, ↓x_nil, ↓x_isN, ↓x_notN, ↓x_neg, ↓x_lens, ↓x_lent, ↓x_lenl, ↓x_abs, ↓x_inti, ↓x_intb, ↓x_max, ↓x_min, ↓x_tofl, ↓x_toft, ↓x_lofl, ↓x_loft, ↓x_iseq, ↓x_sqt, ↓x_sql, ↓x_turn, ↓x_lstR1, ↓x_rg1, ↓x_rg2, ↓x_rgK, ↓x_rgK1, ↓x_rgK2, ↓x_isi_non_int, ↓x_isi_non_bool, ↓x_isi_non_str, ↓x_isi_non_tuple, ↓x_isi_non_list, ↓x_isi_bl_int, ↓x_isi_bl_bool, ↓x_isi_bl_str, ↓x_isi_bl_tuple, ↓x_isi_bl_list, ↓x_isi_int_int, ↓x_isi_int_bool, ↓x_isi_int_str, ↓x_isi_int_tuple, ↓x_isi_int_list, ↓x_isi_str_int, ↓x_isi_str_bool, ↓x_isi_str_str, ↓x_isi_str_tuple, ↓x_isi_str_list, ↓x_isi_tup_int, ↓x_isi_tup_bool, ↓x_isi_tup_str, ↓x_isi_tup_tuple, ↓x_isi_tup_list, ↓x_isi_lst_int, ↓x_isi_lst_bool, ↓x_isi_lst_str, ↓x_isi_lst_tuple, ↓x_isi_lst_list, ↓x_all, ↓x_any, ↓x_sum, ↓x_bln, ↓x_blc, ↓x_itn, ↓x_itc, x_wG, tyD, ↓x_pot0, ↓x_pot1, ↓x_pot2, ↓x_pset0, ↓x_pset2, ↓x_vK, ↓x_cutnn, ↓x_cutns, ↓x_cutsn, ↓x_cutl, ↓x_cutt, ↓x_kyi, ↓x_kys, ↓x_ops, ↓x_kin, ↓x_kidx, ↓x_bm, ↓x_kindl, ↓x_kinds, ↓x_eqb, ↓x_neb, KD_MOST_MOTION, K_QUARTERS]
        exact hK _ _ ⟨_, _, _, rfl, rfl, h⟩
    simp only [startD, List.map_cons, List.map_nil, List.length_cons, List.length_nil, Nat.reduceAdd, Nat.reduceSub, List.replicate_succ, List.replicate_zero, List.cons_append, List.nil_append]; simp -implicitDefEqProofs [↓m_law_led, ↓x_gtT, ↓x_gtCons, ↓x_gtNil, ↓lkK_0, ↓lkK_s, ↓stK_0, ↓stK_s, ↓x_var, ↓x_asg, ↓x_gtN, ↓stSK_c, ↓stSK_n, ↓x_par, ↓wpK_n, ↓wpK_c, ↓x_lc, ↓x_lc2, ↓x_lc2T, ↓x_app, ↓x_ext, ↓x_setI, ↓x_idxV, ↓x_lenV, ↓x_dget, ↓x_din, ↓x_dput, ↓atK_0, ↓atK_1, ↓atK_2, ↓atK_3, ↓atK_m1, ↓atK_m2, ↓atK_m3, ↓atK_m4, ↓x_idxl, ↓x_idxt, ↓x_idxs, ↓x_ret, ↓x_retN, ↓x_seq, ↓x_sif, ↓x_snil, ↓x_exp, ↓x_nev, ↓x_brk, ↓x_cnt, ↓x_sfor, ↓x_moNil, ↓x_moCons, ↓x_asgT, ↓x_gtT, ↓x_gtCons, ↓x_gtNil, ↓x_retV, ↓x_mov, ↓x_c, ↓x_bin, ↓x_un, ↓x_and, ↓x_or, ↓x_not, ↓x_ifE, ↓x_chain, ↓x_cb, ↓x_anil, ↓x_cons, ↓x_star, ↓x_tup, ↓x_lst, ↓x_dic0, ↓x_call, ↓x_callK, ↓x_yes, ↓x_toD, ↓x_toDo, ↓x_toB, ↓x_wT, ↓x_wF, ↓x_wD, ↓x_wN, ↓x_sub, ↓x_mul, ↓x_fdv, ↓x_mod, ↓x_pow, ↓x_lt, ↓x_le, ↓x_gt, ↓x_ge, ↓x_addi, ↓x_adds, ↓x_addt, ↓x_addl, ↓x_eqi, ↓x_nei, ↓x_eqs, ↓x_nes, ↓x_int, ↓x_nit, ↓x_inl, ↓x_nil, ↓x_isN, ↓x_notN, ↓x_neg, ↓x_lens, ↓x_lent, ↓x_lenl, ↓x_abs, ↓x_inti, ↓x_intb, ↓x_max, ↓x_min, ↓x_tofl, ↓x_toft, ↓x_lofl, ↓x_loft, ↓x_iseq, ↓x_sqt, ↓x_sql, ↓x_turn, ↓x_lstR1, ↓x_rg1, ↓x_rg2, ↓x_rgK, ↓x_rgK1, ↓x_rgK2, ↓x_isi_non_int, ↓x_isi_non_bool, ↓x_isi_non_str, ↓x_isi_non_tuple, ↓x_isi_non_list, ↓x_isi_bl_int, ↓x_isi_bl_bool, ↓x_isi_bl_str, ↓x_isi_bl_tuple, ↓x_isi_bl_list, ↓x_isi_int_int, ↓x_isi_int_bool, ↓x_isi_int_str, ↓x_isi_int_tuple, ↓x_isi_int_list, ↓x_isi_str_int, ↓x_isi_str_bool, ↓x_isi_str_str, ↓x_isi_str_tuple, ↓x_isi_str_list, ↓x_isi_tup_int, ↓x_isi_tup_bool, ↓x_isi_tup_str, ↓x_isi_tup_tuple, ↓x_isi_tup_list, ↓x_isi_lst_int, ↓x_isi_lst_bool, ↓x_isi_lst_str, ↓x_isi_lst_tuple, ↓x_isi_lst_list, ↓x_all, ↓x_any, ↓x_sum, ↓x_bln, ↓x_blc, ↓x_itn, ↓x_itc, x_wG, tyD, ↓x_pot0, ↓x_pot1, ↓x_pot2, ↓x_pset0, ↓x_pset2, ↓x_vK, ↓x_cutnn, ↓x_cutns, ↓x_cutsn, ↓x_cutl, ↓x_cutt, ↓x_kyi, ↓x_kys, ↓x_ops, ↓x_kin, ↓x_kidx, ↓x_bm, ↓x_kindl, ↓x_kinds, ↓x_eqb, ↓x_neb, KD_MOST_MOTION, K_QUARTERS]
    refine ⟨fun h => ⟨by omega, by omega, main _ _ _ (by simp [ledP, show 4 ≤ m by omega])⟩, fun h => ⟨by omega, by omega, main _ _ _ (by simp [ledP, show ¬ 4 ≤ m by omega])⟩⟩

def S_law_fraction : SpD := fun ds n R _ => match ds with
  | [.int a, .int b] => 0 ≤ a ∧ 1 ≤ b ∧ a < 2 ^ 64 ∧ b < 2 ^ 64 ∧ R (.dat (.tup [.int (a / Int.gcd a b), .int (b / Int.gcd a b)])) n
  | _ => False

def m_law_fraction : MS := sSeq (sParN [2, 3] (moCons (mCB gAbs (aCons (mCB gInt (aCons (mVar 0) (aNil))) (aNil))) (moCons (mCB gInt (aCons (mVar 1) (aNil))) (moNil)))) (sSeq (sWhl (mBin gGt (mVar 2) (mC (.int 0))) (sParN [2, 3] (moCons (mBin gMod (mVar 3) (mVar 2)) (moCons (mVar 2) (moNil))))) (sRet (mTup (aCons (mBin gFdv (mCB gInt (aCons (mVar 0) (aNil))) (mVar 3)) (aCons (mBin gFdv (mCB gInt (aCons (mVar 1) (aNil))) (mVar 3)) (aNil))))))
theorem sat_law_fraction : ∀ ds n R RX, S_law_fraction ds n R RX → fnM 2 4 m_law_fraction ds n R fun _ _ _ => False := by
  intro ds n R RX h
  unfold S_law_fraction at h
  split at h
  · rename_i a b
    obtain ⟨ha, hb, ha2, hb2, hR⟩ := h
    refine ⟨rfl, ?_⟩
    simp only [startD, List.map_cons, List.map_nil, List.length_cons, List.length_nil, Nat.reduceAdd, Nat.reduceSub, List.replicate_succ, List.replicate_zero, List.cons_append, List.nil_append]; simp -implicitDefEqProofs [↓m_law_fraction, ↓lkK_0, ↓lkK_s, ↓stK_0, ↓stK_s, ↓x_var, ↓x_asg, ↓x_gtN, ↓stSK_c, ↓stSK_n, ↓x_par, ↓wpK_n, ↓wpK_c, ↓x_lc, ↓x_lc2, ↓x_lc2T, ↓x_app, ↓x_ext, ↓x_setI, ↓x_idxV, ↓x_lenV, ↓x_dget, ↓x_din, ↓x_dput, ↓atK_0, ↓atK_1, ↓atK_2, ↓atK_3, ↓atK_m1, ↓atK_m2, ↓atK_m3, ↓atK_m4, ↓x_idxl, ↓x_idxt, ↓x_idxs, ↓x_ret, ↓x_retN, ↓x_seq, ↓x_sif, ↓x_snil, ↓x_exp, ↓x_nev, ↓x_brk, ↓x_cnt, ↓x_sfor, ↓x_moNil, ↓x_moCons, ↓x_asgT, ↓x_gtT, ↓x_gtCons, ↓x_gtNil, ↓x_retV, ↓x_mov, ↓x_c, ↓x_bin, ↓x_un, ↓x_and, ↓x_or, ↓x_not, ↓x_ifE, ↓x_chain, ↓x_cb, ↓x_anil, ↓x_cons, ↓x_star, ↓x_tup, ↓x_lst, ↓x_dic0, ↓x_call, ↓x_callK, ↓x_yes, ↓x_toD, ↓x_toDo, ↓x_toB, ↓x_wT, ↓x_wF, ↓x_wD, ↓x_wN, ↓x_sub, ↓x_mul, ↓x_fdv, ↓x_mod, ↓x_pow, ↓x_lt, ↓x_le, ↓x_gt, ↓x_ge, ↓x_addi, ↓x_adds, ↓x_addt, ↓x_addl, ↓x_eqi, ↓x_nei, ↓x_eqs, ↓x_nes, ↓x_int, ↓x_nit, ↓x_inl, ↓x_nil, ↓x_isN, ↓x_notN, ↓x_neg, ↓x_lens, ↓x_lent, ↓x_lenl, ↓x_abs, ↓x_inti, ↓x_intb, ↓x_max, ↓x_min, ↓x_tofl, ↓x_toft, ↓x_lofl, ↓x_loft, ↓x_iseq, ↓x_sqt, ↓x_sql, ↓x_turn, ↓x_lstR1, ↓x_rg1, ↓x_rg2, ↓x_rgK, ↓x_rgK1, ↓x_rgK2, ↓x_isi_non_int, ↓x_isi_non_bool, ↓x_isi_non_str, ↓x_isi_non_tuple, ↓x_isi_non_list, ↓x_isi_bl_int, ↓x_isi_bl_bool, ↓x_isi_bl_str, ↓x_isi_bl_tuple, ↓x_isi_bl_list, ↓x_isi_int_int, ↓x_isi_int_bool, ↓x_isi_int_str, ↓x_isi_int_tuple, ↓x_isi_int_list, ↓x_isi_str_int, ↓x_isi_str_bool, ↓x_isi_str_str, ↓x_isi_str_tuple, ↓x_isi_str_list, ↓x_isi_tup_int, ↓x_isi_tup_bool, ↓x_isi_tup_str, ↓x_isi_tup_tuple, ↓x_isi_tup_list, ↓x_isi_lst_int, ↓x_isi_lst_bool, ↓x_isi_lst_str, ↓x_isi_lst_tuple, ↓x_isi_lst_list, ↓x_all, ↓x_any, ↓x_sum, ↓x_bln, ↓x_blc, ↓x_itn, ↓x_itc, x_wG, tyD, ↓x_pot0, ↓x_pot1, ↓x_pot2, ↓x_pset0, ↓x_pset2, ↓x_vK, ↓x_cutnn, ↓x_cutns, ↓x_cutsn, ↓x_cutl, ↓x_cutt, ↓x_kyi, ↓x_kys, ↓x_ops, ↓x_kin, ↓x_kidx, ↓x_bm, ↓x_kindl, ↓x_kinds, ↓x_eqb, ↓x_neb, KD_MOST_MOTION, K_QUARTERS]
    refine ⟨fun k ρ n' => ∃ x y : Int, ρ = [.dat (.int a), .dat (.int b), .dat (.int x), .dat (.int y)] ∧ 0 ≤ x ∧ 0 ≤ y ∧ k = x.toNat ∧ n' = n ∧ Int.gcd y x = Int.gcd a b, ⟨a.natAbs, a, b, by rw [show ((a.natAbs : Nat) : Int) = a by omega], ha, by omega, by omega, rfl, Int.gcd_comm _ _⟩, ?_⟩
    rintro k ρ n' ⟨x, y, rfl, hx, hy, rfl, rfl, hg⟩
    simp -implicitDefEqProofs [↓lkK_0, ↓lkK_s, ↓stK_0, ↓stK_s, ↓x_var, ↓x_asg, ↓x_gtN, ↓stSK_c, ↓stSK_n, ↓x_par, ↓wpK_n, ↓wpK_c, ↓x_lc, ↓x_lc2, ↓x_lc2T, ↓x_app, ↓x_ext, ↓x_setI, ↓x_idxV, ↓x_lenV, ↓x_dget, ↓x_din, ↓x_dput, ↓atK_0, ↓atK_1, ↓atK_2, ↓atK_3, ↓atK_m1, ↓atK_m2, ↓atK_m3, ↓atK_m4, ↓x_idxl, ↓x_idxt, ↓x_idxs, ↓x_ret, ↓x_retN, ↓x_seq, ↓x_sif, ↓x_snil, ↓x_exp, ↓x_nev, ↓x_brk, ↓x_cnt, ↓x_sfor, ↓x_moNil, ↓x_moCons, ↓x_asgT, ↓x_gtT, ↓x_gtCons, ↓x_gtNil, ↓x_retV, ↓x_mov, ↓x_c, ↓x_bin, ↓x_un, ↓x_and, ↓x_or, ↓x_not, ↓x_ifE, ↓x_chain, ↓x_cb, ↓x_anil, ↓x_cons, ↓x_star, ↓x_tup, ↓x_lst, ↓x_dic0, ↓x_call, ↓x_callK, ↓x_yes, ↓x_toD, ↓x_toDo, ↓x_toB, ↓x_wT, ↓x_wF, ↓x_wD, ↓x_wN, ↓x_sub, ↓x_mul, ↓x_fdv, ↓x_mod, ↓x_pow, ↓x_lt, ↓x_le, ↓x_gt, ↓x_ge, ↓x_addi, ↓x_adds, ↓x_addt, ↓x_addl, ↓x_eqi, ↓x_nei, ↓x_eqs, ↓x_nes, ↓x_int, ↓x_nit, ↓x_inl, ↓x_nil, ↓x_isN, ↓x_notN, ↓x_neg, ↓x_lens, ↓x_lent, ↓x_lenl, ↓x_abs, ↓x_inti, ↓x_intb, ↓x_max, ↓x_min, ↓x_tofl, ↓x_toft, ↓x_lofl, ↓x_loft, ↓x_iseq, ↓x_sqt, ↓x_sql, ↓x_turn, ↓x_lstR1, ↓x_rg1, ↓x_rg2, ↓x_rgK, ↓x_rgK1, ↓x_rgK2, ↓x_isi_non_int, ↓x_isi_non_bool, ↓x_isi_non_str, ↓x_isi_non_tuple, ↓x_isi_non_list, ↓x_isi_bl_int, ↓x_isi_bl_bool, ↓x_isi_bl_str, ↓x_isi_bl_tuple, ↓x_isi_bl_list, ↓x_isi_int_int, ↓x_isi_int_bool, ↓x_isi_int_str, ↓x_isi_int_tuple, ↓x_isi_int_list, ↓x_isi_str_int, ↓x_isi_str_bool, ↓x_isi_str_str, ↓x_isi_str_tuple, ↓x_isi_str_list, ↓x_isi_tup_int, ↓x_isi_tup_bool, ↓x_isi_tup_str, ↓x_isi_tup_tuple, ↓x_isi_tup_list, ↓x_isi_lst_int, ↓x_isi_lst_bool, ↓x_isi_lst_str, ↓x_isi_lst_tuple, ↓x_isi_lst_list, ↓x_all, ↓x_any, ↓x_sum, ↓x_bln, ↓x_blc, ↓x_itn, ↓x_itc, x_wG, tyD, ↓x_pot0, ↓x_pot1, ↓x_pot2, ↓x_pset0, ↓x_pset2, ↓x_vK, ↓x_cutnn, ↓x_cutns, ↓x_cutsn, ↓x_cutl, ↓x_cutt, ↓x_kyi, ↓x_kys, ↓x_ops, ↓x_kin, ↓x_kidx, ↓x_bm, ↓x_kindl, ↓x_kinds, ↓x_eqb, ↓x_neb, KD_MOST_MOTION, K_QUARTERS]
    have g1 : 1 ≤ (Int.gcd a b : Int) := by
      have := Int.gcd_pos_of_ne_zero_right a (show b ≠ 0 by omega)
      omega
    have g2 : (Int.gcd a b : Int) ≤ b := by
      have := Int.gcd_le_right (a := a) (show 0 < b by omega)
      omega
    refine ⟨fun h0 => ⟨h0, (y % x).toNat, ?_, y % x, x, ⟨rfl, rfl⟩, Int.emod_nonneg _ (by omega), hx, rfl, ?_⟩, fun h0 => ?_⟩
    · have := Int.emod_lt_of_pos y h0
      have := Int.emod_nonneg y (show x ≠ 0 by omega)
      omega
    · rw [gcd_mod hy h0, hg]
    · have e : x = 0 := by omega
      subst e
      rw [Int.gcd_zero_right] at hg
      have e : y = (Int.gcd a b : Int) := by rw [← hg]; omega
      rw [e]
      exact ⟨log2_60 g1 (by omega), hR⟩
  · exact h.elim

def S_law_fractions : SpD := fun ds n R _ => ∃ (low : Int) (tops : List Int), ds = [.int low, .tup (tops.map D.int)] ∧ 1 ≤ low ∧ low < 2 ^ 64 ∧ tops.length ≤ 1000000 ∧ (∀ t ∈ tops, 0 ≤ t ∧ t < 2 ^ 64) ∧
  R (.dat (.tup (tops.map fun t => .tup [.int (t / Int.gcd t low), .int (low / Int.gcd t low)]))) n

def m_law_fractions : MS := sRet (mCB gTupOf (aCons (mLc (iSeq (mVar 1)) (gtN 2) (mYes) (mCall S_law_fraction (aCons (mVar 2) (aCons (mVar 0) (aNil)))) [2]) (aNil)))
theorem sat_law_fractions : ∀ ds n R RX, S_law_fractions ds n R RX → fnM 2 3 m_law_fractions ds n R fun _ _ _ => False := by
  rintro _ n R RX ⟨low, tops, rfl, h1, h2, h3, h4, hR⟩
  refine ⟨rfl, ?_⟩
  simp only [startD, List.map_cons, List.map_nil, List.length_cons, List.length_nil, Nat.reduceAdd, Nat.reduceSub, List.replicate_succ, List.replicate_zero, List.cons_append, List.nil_append]; simp -implicitDefEqProofs [↓m_law_fractions, ↓lkK_0, ↓lkK_s, ↓stK_0, ↓stK_s, ↓x_var, ↓x_asg, ↓x_gtN, ↓stSK_c, ↓stSK_n, ↓x_par, ↓wpK_n, ↓wpK_c, ↓x_lc, ↓x_lc2, ↓x_lc2T, ↓x_app, ↓x_ext, ↓x_setI, ↓x_idxV, ↓x_lenV, ↓x_dget, ↓x_din, ↓x_dput, ↓atK_0, ↓atK_1, ↓atK_2, ↓atK_3, ↓atK_m1, ↓atK_m2, ↓atK_m3, ↓atK_m4, ↓x_idxl, ↓x_idxt, ↓x_idxs, ↓x_ret, ↓x_retN, ↓x_seq, ↓x_sif, ↓x_snil, ↓x_exp, ↓x_nev, ↓x_brk, ↓x_cnt, ↓x_sfor, ↓x_moNil, ↓x_moCons, ↓x_asgT, ↓x_gtT, ↓x_gtCons, ↓x_gtNil, ↓x_retV, ↓x_mov, ↓x_c, ↓x_bin, ↓x_un, ↓x_and, ↓x_or, ↓x_not, ↓x_ifE, ↓x_chain, ↓x_cb, ↓x_anil, ↓x_cons, ↓x_star, ↓x_tup, ↓x_lst, ↓x_dic0, ↓x_call, ↓x_callK, ↓x_yes, ↓x_toD, ↓x_toDo, ↓x_toB, ↓x_wT, ↓x_wF, ↓x_wD, ↓x_wN, ↓x_sub, ↓x_mul, ↓x_fdv, ↓x_mod, ↓x_pow, ↓x_lt, ↓x_le, ↓x_gt, ↓x_ge, ↓x_addi, ↓x_adds, ↓x_addt, ↓x_addl, ↓x_eqi, ↓x_nei, ↓x_eqs, ↓x_nes, ↓x_int, ↓x_nit, ↓x_inl, ↓x_nil, ↓x_isN, ↓x_notN, ↓x_neg, ↓x_lens, ↓x_lent, ↓x_lenl, ↓x_abs, ↓x_inti, ↓x_intb, ↓x_max, ↓x_min, ↓x_tofl, ↓x_toft, ↓x_lofl, ↓x_loft, ↓x_iseq, ↓x_sqt, ↓x_sql, ↓x_turn, ↓x_lstR1, ↓x_rg1, ↓x_rg2, ↓x_rgK, ↓x_rgK1, ↓x_rgK2, ↓x_isi_non_int, ↓x_isi_non_bool, ↓x_isi_non_str, ↓x_isi_non_tuple, ↓x_isi_non_list, ↓x_isi_bl_int, ↓x_isi_bl_bool, ↓x_isi_bl_str, ↓x_isi_bl_tuple, ↓x_isi_bl_list, ↓x_isi_int_int, ↓x_isi_int_bool, ↓x_isi_int_str, ↓x_isi_int_tuple, ↓x_isi_int_list, ↓x_isi_str_int, ↓x_isi_str_bool, ↓x_isi_str_str, ↓x_isi_str_tuple, ↓x_isi_str_list, ↓x_isi_tup_int, ↓x_isi_tup_bool, ↓x_isi_tup_str, ↓x_isi_tup_tuple, ↓x_isi_tup_list, ↓x_isi_lst_int, ↓x_isi_lst_bool, ↓x_isi_lst_str, ↓x_isi_lst_tuple, ↓x_isi_lst_list, ↓x_all, ↓x_any, ↓x_sum, ↓x_bln, ↓x_blc, ↓x_itn, ↓x_itc, x_wG, tyD, ↓x_pot0, ↓x_pot1, ↓x_pot2, ↓x_pset0, ↓x_pset2, ↓x_vK, ↓x_cutnn, ↓x_cutns, ↓x_cutsn, ↓x_cutl, ↓x_cutt, ↓x_kyi, ↓x_kys, ↓x_ops, ↓x_kin, ↓x_kidx, ↓x_bm, ↓x_kindl, ↓x_kinds, ↓x_eqb, ↓x_neb, KD_MOST_MOTION, K_QUARTERS]
  refine lcL_all (fun d => match d with | .int t => .tup [.int (t / Int.gcd t low), .int (low / Int.gcd t low)] | _ => .non) (fun d hd acc n' K ha hK => ?_) n (by simpa using h3) ?_
  · obtain ⟨t, ht, rfl⟩ := List.mem_map.mp hd
    simp -implicitDefEqProofs [↓S_law_fraction, ↓lkK_0, ↓lkK_s, ↓stK_0, ↓stK_s, ↓x_var, ↓x_asg, ↓x_gtN, ↓stSK_c, ↓stSK_n, ↓x_par, ↓wpK_n, ↓wpK_c, ↓x_lc, ↓x_lc2, ↓x_lc2T, ↓x_app, ↓x_ext, ↓x_setI, ↓x_idxV, ↓x_lenV, ↓x_dget, ↓x_din, ↓x_dput, ↓atK_0, ↓atK_1, ↓atK_2, ↓atK_3, ↓atK_m1, ↓atK_m2, ↓atK_m3, ↓atK_m4, ↓x_idxl, ↓x_idxt, ↓x_idxs, ↓x_ret, ↓x_retN, ↓x_seq, ↓x_sif, ↓x_snil, ↓x_exp, ↓x_nev, ↓x_brk, ↓x_cnt, ↓x_sfor, ↓x_moNil, ↓x_moCons, ↓x_asgT, ↓x_gtT, ↓x_gtCons, ↓x_gtNil, ↓x_retV, ↓x_mov, ↓x_c, ↓x_bin, ↓x_un, ↓x_and, ↓x_or, ↓x_not, ↓x_ifE, ↓x_chain, ↓x_cb, ↓x_anil, ↓x_cons, ↓x_star, ↓x_tup, ↓x_lst, ↓x_dic0, ↓x_call, ↓x_callK, ↓x_yes, ↓x_toD, ↓x_toDo, ↓x_toB, ↓x_wT, ↓x_wF, ↓x_wD, ↓x_wN, ↓x_sub, ↓x_mul, ↓x_fdv, ↓x_mod, ↓x_pow, ↓x_lt, ↓x_le, ↓x_gt, ↓x_ge, ↓x_addi, ↓x_adds, ↓x_addt, ↓x_addl, ↓x_eqi, ↓x_nei, ↓x_eqs, ↓x_nes, ↓x_int, ↓x_nit, ↓x_inl, ↓x_nil, ↓x_isN, ↓x_notN, ↓x_neg, ↓x_lens, ↓x_lent, ↓x_lenl, ↓x_abs, ↓x_inti, ↓x_intb, ↓x_max, ↓x_min, ↓x_tofl, ↓x_toft, ↓x_lofl, ↓x_loft, ↓x_iseq, ↓x_sqt, ↓x_sql, ↓x_turn, ↓x_lstR1, ↓x_rg1, ↓x_rg2, ↓x_rgK, ↓x_rgK1, ↓x_rgK2, ↓x_isi_non_int, ↓x_isi_non_bool, ↓x_isi_non_str, ↓x_isi_non_tuple, ↓x_isi_non_list, ↓x_isi_bl_int, ↓x_isi_bl_bool, ↓x_isi_bl_str, ↓x_isi_bl_tuple, ↓x_isi_bl_list, ↓x_isi_int_int, ↓x_isi_int_bool, ↓x_isi_int_str, ↓x_isi_int_tuple, ↓x_isi_int_list, ↓x_isi_str_int, ↓x_isi_str_bool, ↓x_isi_str_str, ↓x_isi_str_tuple, ↓x_isi_str_list, ↓x_isi_tup_int, ↓x_isi_tup_bool, ↓x_isi_tup_str, ↓x_isi_tup_tuple, ↓x_isi_tup_list, ↓x_isi_lst_int, ↓x_isi_lst_bool, ↓x_isi_lst_str, ↓x_isi_lst_tuple, ↓x_isi_lst_list, ↓x_all, ↓x_any, ↓x_sum, ↓x_bln, ↓x_blc, ↓x_itn, ↓x_itc, x_wG, tyD, ↓x_pot0, ↓x_pot1, ↓x_pot2, ↓x_pset0, ↓x_pset2, ↓x_vK, ↓x_cutnn, ↓x_cutns, ↓x_cutsn, ↓x_cutl, ↓x_cutt, ↓x_kyi, ↓x_kys, ↓x_ops, ↓x_kin, ↓x_kidx, ↓x_bm, ↓x_kindl, ↓x_kinds, ↓x_eqb, ↓x_neb, KD_MOST_MOTION, K_QUARTERS]
    exact ⟨(h4 t ht).1, h1, (h4 t ht).2, h2, ha, hK⟩
  · rw [List.map_map]
    exact hR

def manyM (s : Int) : Int := if s = 2 then 8 else 2
def S_law_probed : SpD := fun ds n R _ => match ds with
  | [.int s, .int a, .int b] => (s = 1 ∨ s = 2) ∧ 0 ≤ a ∧ a < manyM s ∧ 0 ≤ b ∧ b < manyM s ∧ R (.dat (.int (mjI s a b))) n
  | _ => False

def m_law_probed : MS := sSeq (sAsg 3 (mIfE (mBin (gEq false) (mVar 0) (mC (.int 2))) (mLst (aCons (mTup (aCons (mC (.int 0)) (aCons (mC (.int 0)) (aNil)))) (aCons (mTup (aCons (mC (.int 1)) (aCons (mC (.int 0)) (aNil)))) (aCons (mTup (aCons (mC (.int 0)) (aCons (mC (.int 2)) (aNil)))) (aNil))))) (mLst (aCons (mTup (aCons (mC (.int 0)) (aNil))) (aCons (mTup (aCons (mC (.int 1)) (aNil))) (aNil)))))) (sSeq (sFor (iRg1 (aCons (mIfE (mBin (gEq false) (mVar 0) (mC (.int 2))) (mC (.int 8)) (mC (.int 2))) (aNil))) (gtN 4) (sIf (mCB gAll (aCons (mLc (iSeq (mVar 3)) (gtN 5) (mYes) (mBin (gEq false) (mCall S_law_led (aCons (mVar 4) (aCons (mC (.int 5)) (aCons (mVar 5) (aNil))))) (mCall S_law_led (aCons (mVar 2) (aCons (mC (.int 5)) (aCons (mCall S_law_led (aCons (mVar 1) (aCons (mC (.int 5)) (aCons (mVar 5) (aNil))))) (aNil)))))) [5]) (aNil))) (sRet (mVar 4)) (sNil))) (sRet (mC .non)))
def probeL (s : Int) : List (List Int) := if s = 2 then [[0, 0], [1, 0], [0, 2]] else [[0], [1]]
/-- the test of a motion -/
def probeT (s a b m : Int) : Bool := (probeL s).all fun t => decide (ledL m 5 t = ledL b 5 (ledL a 5 t))
theorem probe_2 : ∀ a, a < 8 → ∀ b, b < 8 → (((List.range 8).find? fun m => probeT 2 (a : Nat) (b : Nat) (m : Nat)) == some (mjI 2 (a : Nat) (b : Nat)).toNat) = true := by decide +kernel
theorem probe_1 : ∀ a, a < 2 → ∀ b, b < 2 → (((List.range 2).find? fun m => probeT 1 (a : Nat) (b : Nat) (m : Nat)) == some (mjI 1 (a : Nat) (b : Nat)).toNat) = true := by decide +kernel
theorem probe_find {s a b : Int} (hs : s = 1 ∨ s = 2) (a0 : 0 ≤ a) (a1 : a < manyM s) (b0 : 0 ≤ b) (b1 : b < manyM s) : ((List.range (manyM s).toNat).find? fun m => probeT s a b (m : Nat)) = some (mjI s a b).toNat := by
  obtain ⟨x, rfl⟩ := Int.eq_ofNat_of_zero_le a0
  obtain ⟨y, rfl⟩ := Int.eq_ofNat_of_zero_le b0
  rcases hs with rfl | rfl
  · exact eq_of_beq (probe_1 x (by simp [manyM] at a1; omega) y (by simp [manyM] at b1; omega))
  · exact eq_of_beq (probe_2 x (by simp [manyM] at a1; omega) y (by simp [manyM] at b1; omega))
theorem mjI_nn (s a b : Int) : 0 ≤ mjI s a b := by
  unfold mjI; (repeat' split) <;> omega
theorem ledL_ok {s m : Int} {t : List Int} (hs : s = 1 ∨ s = 2) (ht : (t.length : Int) = s) (m0 : 0 ≤ m) (m1 : m < manyM s) : (t.length = 1 ∧ (m = 0 ∨ m = 1)) ∨ t.length = 2 := by
  rcases hs with rfl | rfl
  · simp [manyM] at m1; exact .inl ⟨by omega, by omega⟩
  · exact .inr (by omega)
theorem manyM_le {s : Int} (hs : s = 1 ∨ s = 2) : manyM s ≤ 8 := by rcases hs with rfl | rfl <;> decide
theorem ledL_length (m low : Int) (t : List Int) : (ledL m low t).length = t.length := by
  unfold ledL
  split
  · split <;> rfl
  · rfl
  · rfl
theorem probe_len {s : Int} (hs : s = 1 ∨ s = 2) {t : List Int} (h : t ∈ probeL s) : (t.length : Int) = s := by
  rcases hs with rfl | rfl
  · rcases (List.mem_cons.mp h) with rfl | h
    · rfl
    · rcases (List.mem_cons.mp h) with rfl | h
      · rfl
      · cases h
  · rcases (List.mem_cons.mp h) with rfl | h
    · rfl
    · rcases (List.mem_cons.mp h) with rfl | h
      · rfl
      · rcases (List.mem_cons.mp h) with rfl | h
        · rfl
        · cases h
theorem sat_law_probed : ∀ ds n R RX, S_law_probed ds n R RX → fnM 3 6 m_law_probed ds n R fun _ _ _ => False := by
  intro ds n R RX h
  unfold S_law_probed at h
  split at h
  · rename_i s a b
    obtain ⟨hs, a0, a1, b0, b1, hR⟩ := h
    refine ⟨rfl, ?_⟩
    have m8 := manyM_le hs
    have main : ∀ s3 : S, s3 = .own ((probeL s).map tupI) → forL (gtN 4) (sIf (mCB gAll (aCons (mLc (iSeq (mVar 3)) (gtN 5) (mYes) (mBin (gEq false) (mCall S_law_led (aCons (mVar 4) (aCons (mC (.int 5)) (aCons (mVar 5) (aNil))))) (mCall S_law_led (aCons (mVar 2) (aCons (mC (.int 5)) (aCons (mCall S_law_led (aCons (mVar 1) (aCons (mC (.int 5)) (aCons (mVar 5) (aNil))))) (aNil)))))) [5]) (aNil))) (sRet (mVar 4)) (sNil))
        { nx := sRet (mC .non) { nx := fun _ n' => R (.dat .non) n', rt := fun s _ n' => R s n', ex := fun _ _ _ => False }, rt := fun s _ n' => R s n', ex := fun _ _ _ => False }
        (rngD 0 (manyM s)) [.dat (.int s), .dat (.int a), .dat (.int b), s3, .un, .un] n := by
      intro s3 hs3
      refine forL_ind (fun ds ρ n' => ∃ (ms : List Nat) (s3 s4 s5 : S), ds = ms.map (fun m => D.int (m : Nat)) ∧ (∀ m ∈ ms, ((m : Nat) : Int) < manyM s) ∧ (ms.find? fun m => probeT s a b (m : Nat)) = some (mjI s a b).toNat ∧ n' = n ∧ (s3 = .own ((probeL s).map tupI) ∨ s3 = .dat (.lst ((probeL s).map tupI))) ∧
        ρ = [.dat (.int s), .dat (.int a), .dat (.int b), s3, s4, s5]) ?_ ?_ _ _ _ ⟨List.range (manyM s).toNat, _, _, _, rngD_eq _, fun m hm => by simp at hm; omega, probe_find hs a0 a1 b0 b1, rfl, .inl hs3, rfl⟩
      · rintro ρ n' ⟨ms, s3, s4, s5, e, _, hf, _⟩
        cases ms with
        | nil => cases hf
        | cons m ms => cases e
      · rintro d ds ρ n' K hK ⟨ms, s3, s4, s5, e, hm, hf, rfl, h3, rfl⟩
        cases ms with
        | nil => cases e
        | cons m ms =>
          cases e
          have hm0 := hm m List.mem_cons_self
          rw [List.find?_cons] at hf
          have main2 : ∀ Kx : List D → Nat → Prop, Kx ((probeL s).map fun t => D.bl (decide (ledL (m : Nat) 5 t = ledL b 5 (ledL a 5 t)))) n' → lcL (gtN 5) (mYes) (mBin (gEq false) (mCall S_law_led (aCons (mVar 4) (aCons (mC (.int 5)) (aCons (mVar 5) (aNil))))) (mCall S_law_led (aCons (mVar 2) (aCons (mC (.int 5)) (aCons (mCall S_law_led (aCons (mVar 1) (aCons (mC (.int 5)) (aCons (mVar 5) (aNil))))) (aNil))))))
              [.dat (.int s), .dat (.int a), .dat (.int b), .dat (.lst ((probeL s).map tupI)), .dat (.int (m : Nat)), .un]
              Kx ((probeL s).map tupI) [] n' := by
            intro Kx hKx
            refine lcL_of _ (fun t => D.bl (decide (ledL (m : Nat) 5 t = ledL b 5 (ledL a 5 t)))) (fun t ht acc n2 K2 ha hK2 => ?_) n' (by unfold probeL; split <;> decide) hKx
            · have hl := probe_len hs ht
              simp -implicitDefEqProofs -dsimp [↓lkK_0, ↓lkK_s, ↓stK_0, ↓stK_s, ↓x_var, ↓x_asg, ↓x_gtN, ↓stSK_c, ↓stSK_n, ↓x_par, ↓wpK_n, ↓wpK_c, ↓x_lcz, ↓x_lc2z, ↓x_lc2T, ↓x_app, ↓x_ext, ↓x_setI, ↓x_idxV, ↓x_lenV, ↓x_dget, ↓x_din, ↓x_dput, ↓atK_0, ↓atK_1, ↓atK_2, ↓atK_3, ↓atK_m1, ↓atK_m2, ↓atK_m3, ↓atK_m4, ↓x_idxl, ↓x_idxt, ↓x_idxs, ↓x_ret, ↓x_retN, ↓x_seq, ↓x_sif, ↓x_snil, ↓x_exp, ↓x_nev, ↓x_brk, ↓x_cnt, ↓x_sfor, ↓x_moNil, ↓x_moCons, ↓x_asgT, ↓x_gtT, ↓x_gtCons, ↓x_gtNil, ↓x_retV, ↓x_mov, ↓x_c, ↓x_bin, ↓x_un, ↓x_and, ↓x_or, ↓x_not, ↓x_ifE, ↓x_chain, ↓x_cb, ↓x_anil, ↓x_cons, ↓x_star, ↓x_tup, ↓x_lst, ↓x_dic0, ↓x_call, ↓x_callK, ↓x_yes, ↓x_toD, ↓x_toDo, ↓x_toB, ↓x_wT, ↓x_wF, ↓x_wD, ↓x_wN, ↓x_sub, ↓x_mul, ↓x_fdv, ↓x_mod, ↓x_pow, ↓x_lt, ↓x_le, ↓x_gt, ↓x_ge, ↓x_addi, ↓x_adds, ↓x_addt, ↓x_addl, ↓x_eqi, ↓x_nei, ↓x_eqs, ↓x_nes, ↓x_int, ↓x_nit, ↓x_inl, ↓x_nil, ↓x_isN, ↓x_notN, ↓x_neg, ↓x_lens, ↓x_lent, ↓x_lenl, ↓x_abs, ↓x_inti, ↓x_intb, ↓x_max, ↓x_min, ↓x_tofl, ↓x_toft, ↓x_lofl, ↓x_loft, ↓x_iseq, ↓x_sqt, ↓x_sql, ↓x_turn, ↓x_lstR1, ↓x_rg1, ↓x_rg2, ↓x_rgK, ↓x_rgK1, ↓x_rgK2, ↓x_isi_non_int, ↓x_isi_non_bool, ↓x_isi_non_str, ↓x_isi_non_tuple, ↓x_isi_non_list, ↓x_isi_bl_int, ↓x_isi_bl_bool, ↓x_isi_bl_str, ↓x_isi_bl_tuple, ↓x_isi_bl_list, ↓x_isi_int_int, ↓x_isi_int_bool, ↓x_isi_int_str, ↓x_isi_int_tuple, ↓x_isi_int_list, ↓x_isi_str_int, ↓x_isi_str_bool, ↓x_isi_str_str, ↓x_isi_str_tuple, ↓x_isi_str_list, ↓x_isi_tup_int, ↓x_isi_tup_bool, ↓x_isi_tup_str, ↓x_isi_tup_tuple, ↓x_isi_tup_list, ↓x_isi_lst_int, ↓x_isi_lst_bool, ↓x_isi_lst_str, ↓x_isi_lst_tuple, ↓x_isi_lst_list, ↓x_all, ↓x_any, ↓x_sum, ↓x_bln, ↓x_blc, ↓x_itn, ↓x_itc, x_wG, tyD, ↓x_pot0, ↓x_pot1, ↓x_pot2, ↓x_pset0, ↓x_pset2, ↓x_vK, ↓x_cutnn, ↓x_cutns, ↓x_cutsn, ↓x_cutl, ↓x_cutt, ↓x_kyi, ↓x_kys, ↓x_ops, ↓x_kin, ↓x_kidx, ↓x_bm, ↓x_kindl, ↓x_kinds, ↓x_eqb, ↓x_neb, KD_MOST_MOTION, K_QUARTERS, ↓x_bx]
              refine ⟨(m : Nat), 5, t, rfl, ledL_ok hs hl (by omega) hm0, by omega, by omega, ?_⟩
              simp -implicitDefEqProofs -dsimp [↓lkK_0, ↓lkK_s, ↓stK_0, ↓stK_s, ↓x_var, ↓x_asg, ↓x_gtN, ↓stSK_c, ↓stSK_n, ↓x_par, ↓wpK_n, ↓wpK_c, ↓x_lcz, ↓x_lc2z, ↓x_lc2T, ↓x_app, ↓x_ext, ↓x_setI, ↓x_idxV, ↓x_lenV, ↓x_dget, ↓x_din, ↓x_dput, ↓atK_0, ↓atK_1, ↓atK_2, ↓atK_3, ↓atK_m1, ↓atK_m2, ↓atK_m3, ↓atK_m4, ↓x_idxl, ↓x_idxt, ↓x_idxs, ↓x_ret, ↓x_retN, ↓x_seq, ↓x_sif, ↓x_snil, ↓x_exp, ↓x_nev, ↓x_brk, ↓x_cnt, ↓x_sfor, ↓x_moNil, ↓x_moCons, ↓x_asgT, ↓x_gtT, ↓x_gtCons, ↓x_gtNil, ↓x_retV, ↓x_mov, ↓x_c, ↓x_bin, ↓x_un, ↓x_and, ↓x_or, ↓x_not, ↓x_ifE, ↓x_chain, ↓x_cb, ↓x_anil, ↓x_cons, ↓x_star, ↓x_tup, ↓x_lst, ↓x_dic0, ↓x_call, ↓x_callK, ↓x_yes, ↓x_toD, ↓x_toDo, ↓x_toB, ↓x_wT, ↓x_wF, ↓x_wD, ↓x_wN, ↓x_sub, ↓x_mul, ↓x_fdv, ↓x_mod, ↓x_pow, ↓x_lt, ↓x_le, ↓x_gt, ↓x_ge, ↓x_addi, ↓x_adds, ↓x_addt, ↓x_addl, ↓x_eqi, ↓x_nei, ↓x_eqs, ↓x_nes, ↓x_int, ↓x_nit, ↓x_inl, ↓x_nil, ↓x_isN, ↓x_notN, ↓x_neg, ↓x_lens, ↓x_lent, ↓x_lenl, ↓x_abs, ↓x_inti, ↓x_intb, ↓x_max, ↓x_min, ↓x_tofl, ↓x_toft, ↓x_lofl, ↓x_loft, ↓x_iseq, ↓x_sqt, ↓x_sql, ↓x_turn, ↓x_lstR1, ↓x_rg1, ↓x_rg2, ↓x_rgK, ↓x_rgK1, ↓x_rgK2, ↓x_isi_non_int, ↓x_isi_non_bool, ↓x_isi_non_str, ↓x_isi_non_tuple, ↓x_isi_non_list, ↓x_isi_bl_int, ↓x_isi_bl_bool, ↓x_isi_bl_str, ↓x_isi_bl_tuple, ↓x_isi_bl_list, ↓x_isi_int_int, ↓x_isi_int_bool, ↓x_isi_int_str, ↓x_isi_int_tuple, ↓x_isi_int_list, ↓x_isi_str_int, ↓x_isi_str_bool, ↓x_isi_str_str, ↓x_isi_str_tuple, ↓x_isi_str_list, ↓x_isi_tup_int, ↓x_isi_tup_bool, ↓x_isi_tup_str, ↓x_isi_tup_tuple, ↓x_isi_tup_list, ↓x_isi_lst_int, ↓x_isi_lst_bool, ↓x_isi_lst_str, ↓x_isi_lst_tuple, ↓x_isi_lst_list, ↓x_all, ↓x_any, ↓x_sum, ↓x_bln, ↓x_blc, ↓x_itn, ↓x_itc, x_wG, tyD, ↓x_pot0, ↓x_pot1, ↓x_pot2, ↓x_pset0, ↓x_pset2, ↓x_vK, ↓x_cutnn, ↓x_cutns, ↓x_cutsn, ↓x_cutl, ↓x_cutt, ↓x_kyi, ↓x_kys, ↓x_ops, ↓x_kin, ↓x_kidx, ↓x_bm, ↓x_kindl, ↓x_kinds, ↓x_eqb, ↓x_neb, KD_MOST_MOTION, K_QUARTERS, ↓x_bx]
              refine ⟨a, 5, t, rfl, ledL_ok hs hl a0 a1, a0, by omega, ?_⟩
              simp -implicitDefEqProofs -dsimp [↓lkK_0, ↓lkK_s, ↓stK_0, ↓stK_s, ↓x_var, ↓x_asg, ↓x_gtN, ↓stSK_c, ↓stSK_n, ↓x_par, ↓wpK_n, ↓wpK_c, ↓x_lcz, ↓x_lc2z, ↓x_lc2T, ↓x_app, ↓x_ext, ↓x_setI, ↓x_idxV, ↓x_lenV, ↓x_dget, ↓x_din, ↓x_dput, ↓atK_0, ↓atK_1, ↓atK_2, ↓atK_3, ↓atK_m1, ↓atK_m2, ↓atK_m3, ↓atK_m4, ↓x_idxl, ↓x_idxt, ↓x_idxs, ↓x_ret, ↓x_retN, ↓x_seq, ↓x_sif, ↓x_snil, ↓x_exp, ↓x_nev, ↓x_brk, ↓x_cnt, ↓x_sfor, ↓x_moNil, ↓x_moCons, ↓x_asgT, ↓x_gtT, ↓x_gtCons, ↓x_gtNil, ↓x_retV, ↓x_mov, ↓x_c, ↓x_bin, ↓x_un, ↓x_and, ↓x_or, ↓x_not, ↓x_ifE, ↓x_chain, ↓x_cb, ↓x_anil, ↓x_cons, ↓x_star, ↓x_tup, ↓x_lst, ↓x_dic0, ↓x_call, ↓x_callK, ↓x_yes, ↓x_toD, ↓x_toDo, ↓x_toB, ↓x_wT, ↓x_wF, ↓x_wD, ↓x_wN, ↓x_sub, ↓x_mul, ↓x_fdv, ↓x_mod, ↓x_pow, ↓x_lt, ↓x_le, ↓x_gt, ↓x_ge, ↓x_addi, ↓x_adds, ↓x_addt, ↓x_addl, ↓x_eqi, ↓x_nei, ↓x_eqs, ↓x_nes, ↓x_int, ↓x_nit, ↓x_inl, ↓x_nil, ↓x_isN, ↓x_notN, ↓x_neg, ↓x_lens, ↓x_lent, ↓x_lenl, ↓x_abs, ↓x_inti, ↓x_intb, ↓x_max, ↓x_min, ↓x_tofl, ↓x_toft, ↓x_lofl, ↓x_loft, ↓x_iseq, ↓x_sqt, ↓x_sql, ↓x_turn, ↓x_lstR1, ↓x_rg1, ↓x_rg2, ↓x_rgK, ↓x_rgK1, ↓x_rgK2, ↓x_isi_non_int, ↓x_isi_non_bool, ↓x_isi_non_str, ↓x_isi_non_tuple, ↓x_isi_non_list, ↓x_isi_bl_int, ↓x_isi_bl_bool, ↓x_isi_bl_str, ↓x_isi_bl_tuple, ↓x_isi_bl_list, ↓x_isi_int_int, ↓x_isi_int_bool, ↓x_isi_int_str, ↓x_isi_int_tuple, ↓x_isi_int_list, ↓x_isi_str_int, ↓x_isi_str_bool, ↓x_isi_str_str, ↓x_isi_str_tuple, ↓x_isi_str_list, ↓x_isi_tup_int, ↓x_isi_tup_bool, ↓x_isi_tup_str, ↓x_isi_tup_tuple, ↓x_isi_tup_list, ↓x_isi_lst_int, ↓x_isi_lst_bool, ↓x_isi_lst_str, ↓x_isi_lst_tuple, ↓x_isi_lst_list, ↓x_all, ↓x_any, ↓x_sum, ↓x_bln, ↓x_blc, ↓x_itn, ↓x_itc, x_wG, tyD, ↓x_pot0, ↓x_pot1, ↓x_pot2, ↓x_pset0, ↓x_pset2, ↓x_vK, ↓x_cutnn, ↓x_cutns, ↓x_cutsn, ↓x_cutl, ↓x_cutt, ↓x_kyi, ↓x_kys, ↓x_ops, ↓x_kin, ↓x_kidx, ↓x_bm, ↓x_kindl, ↓x_kinds, ↓x_eqb, ↓x_neb, KD_MOST_MOTION, K_QUARTERS, ↓x_bx]
              refine ⟨b, 5, _, rfl, ledL_ok hs (by rw [ledL_length]; exact hl) b0 b1, b0, by omega, ?_⟩
              simp -implicitDefEqProofs only [↓x_toD]
              refine gEq_ints ?_
              simp -implicitDefEqProofs -dsimp [↓lkK_0, ↓lkK_s, ↓stK_0, ↓stK_s, ↓x_var, ↓x_asg, ↓x_gtN, ↓stSK_c, ↓stSK_n, ↓x_par, ↓wpK_n, ↓wpK_c, ↓x_lcz, ↓x_lc2z, ↓x_lc2T, ↓x_app, ↓x_ext, ↓x_setI, ↓x_idxV, ↓x_lenV, ↓x_dget, ↓x_din, ↓x_dput, ↓atK_0, ↓atK_1, ↓atK_2, ↓atK_3, ↓atK_m1, ↓atK_m2, ↓atK_m3, ↓atK_m4, ↓x_idxl, ↓x_idxt, ↓x_idxs, ↓x_ret, ↓x_retN, ↓x_seq, ↓x_sif, ↓x_snil, ↓x_exp, ↓x_nev, ↓x_brk, ↓x_cnt, ↓x_sfor, ↓x_moNil, ↓x_moCons, ↓x_asgT, ↓x_gtT, ↓x_gtCons, ↓x_gtNil, ↓x_retV, ↓x_mov, ↓x_c, ↓x_bin, ↓x_un, ↓x_and, ↓x_or, ↓x_not, ↓x_ifE, ↓x_chain, ↓x_cb, ↓x_anil, ↓x_cons, ↓x_star, ↓x_tup, ↓x_lst, ↓x_dic0, ↓x_call, ↓x_callK, ↓x_yes, ↓x_toD, ↓x_toDo, ↓x_toB, ↓x_wT, ↓x_wF, ↓x_wD, ↓x_wN, ↓x_sub, ↓x_mul, ↓x_fdv, ↓x_mod, ↓x_pow, ↓x_lt, ↓x_le, ↓x_gt, ↓x_ge, ↓x_addi, ↓x_adds, ↓x_addt, ↓x_addl, ↓x_eqi, ↓x_nei, ↓x_eqs, ↓x_nes, ↓x_int, ↓x_nit, ↓x_inl, ↓x_nil, ↓x_isN, ↓x_notN, ↓x_neg, ↓x_lens, ↓x_lent, ↓x_lenl, ↓x_abs, ↓x_inti, ↓x_intb, ↓x_max, ↓x_min, ↓x_tofl, ↓x_toft, ↓x_lofl, ↓x_loft, ↓x_iseq, ↓x_sqt, ↓x_sql, ↓x_turn, ↓x_lstR1, ↓x_rg1, ↓x_rg2, ↓x_rgK, ↓x_rgK1, ↓x_rgK2, ↓x_isi_non_int, ↓x_isi_non_bool, ↓x_isi_non_str, ↓x_isi_non_tuple, ↓x_isi_non_list, ↓x_isi_bl_int, ↓x_isi_bl_bool, ↓x_isi_bl_str, ↓x_isi_bl_tuple, ↓x_isi_bl_list, ↓x_isi_int_int, ↓x_isi_int_bool, ↓x_isi_int_str, ↓x_isi_int_tuple, ↓x_isi_int_list, ↓x_isi_str_int, ↓x_isi_str_bool, ↓x_isi_str_str, ↓x_isi_str_tuple, ↓x_isi_str_list, ↓x_isi_tup_int, ↓x_isi_tup_bool, ↓x_isi_tup_str, ↓x_isi_tup_tuple, ↓x_isi_tup_list, ↓x_isi_lst_int, ↓x_isi_lst_bool, ↓x_isi_lst_str, ↓x_isi_lst_tuple, ↓x_isi_lst_list, ↓x_all, ↓x_any, ↓x_sum, ↓x_bln, ↓x_blc, ↓x_itn, ↓x_itc, x_wG, tyD, ↓x_pot0, ↓x_pot1, ↓x_pot2, ↓x_pset0, ↓x_pset2, ↓x_vK, ↓x_cutnn, ↓x_cutns, ↓x_cutsn, ↓x_cutl, ↓x_cutt, ↓x_kyi, ↓x_kys, ↓x_ops, ↓x_kin, ↓x_kidx, ↓x_bm, ↓x_kindl, ↓x_kinds, ↓x_eqb, ↓x_neb, KD_MOST_MOTION, K_QUARTERS, ↓x_bx]
              exact ⟨ha, hK2⟩
          have fin : blK ((probeL s).map fun t => D.bl (decide (ledL (m : Nat) 5 t = ledL b 5 (ledL a 5 t)))) fun ns => wIf (ns.all id) (R (.dat (.int (m : Nat))) n') (K [.dat (.int s), .dat (.int a), .dat (.int b), .dat (.lst ((probeL s).map tupI)), .dat (.int (m : Nat)), s5] n') := by
            rw [blK_of (fun t => decide (ledL (m : Nat) 5 t = ledL b 5 (ledL a 5 t)))]
            have e : ((probeL s).map fun t => decide (ledL (m : Nat) 5 t = ledL b 5 (ledL a 5 t))).all id = probeT s a b (m : Nat) := by rw [List.all_map]; rfl
            rw [e]
            refine ⟨fun hp => ?_, fun hp => ?_⟩
            · rw [hp] at hf
              have e2 : (m : Int) = mjI s a b := by
                have := mjI_nn s a b
                have e3 : m = (mjI s a b).toNat := Option.some.inj hf
                omega
              rw [e2]; exact hR
            · rw [hp] at hf
              exact hK _ _ ⟨ms, _, _, _, rfl, fun x hx => hm x (List.mem_cons_of_mem _ hx), hf, rfl, .inr rfl, rfl⟩
          rcases h3 with rfl | rfl <;> (simp -implicitDefEqProofs -dsimp [↓lkK_0, ↓lkK_s, ↓stK_0, ↓stK_s, ↓x_var, ↓x_asg, ↓x_gtN, ↓stSK_c, ↓stSK_n, ↓x_par, ↓wpK_n, ↓wpK_c, ↓x_lcz, ↓x_lc2z, ↓x_lc2T, ↓x_app, ↓x_ext, ↓x_setI, ↓x_idxV, ↓x_lenV, ↓x_dget, ↓x_din, ↓x_dput, ↓atK_0, ↓atK_1, ↓atK_2, ↓atK_3, ↓atK_m1, ↓atK_m2, ↓atK_m3, ↓atK_m4, ↓x_idxl, ↓x_idxt, ↓x_idxs, ↓x_ret, ↓x_retN, ↓x_seq, ↓x_sif, ↓x_snil, ↓x_exp, ↓x_nev, ↓x_brk, ↓x_cnt, ↓x_sfor, ↓x_moNil, ↓x_moCons, ↓x_asgT, ↓x_gtT, ↓x_gtCons, ↓x_gtNil, ↓x_retV, ↓x_mov, ↓x_c, ↓x_bin, ↓x_un, ↓x_and, ↓x_or, ↓x_not, ↓x_ifE, ↓x_chain, ↓x_cb, ↓x_anil, ↓x_cons, ↓x_star, ↓x_tup, ↓x_lst, ↓x_dic0, ↓x_call, ↓x_callK, ↓x_yes, ↓x_toD, ↓x_toDo, ↓x_toB, ↓x_wT, ↓x_wF, ↓x_wD, ↓x_wN, ↓x_sub, ↓x_mul, ↓x_fdv, ↓x_mod, ↓x_pow, ↓x_lt, ↓x_le, ↓x_gt, ↓x_ge, ↓x_addi, ↓x_adds, ↓x_addt, ↓x_addl, ↓x_eqi, ↓x_nei, ↓x_eqs, ↓x_nes, ↓x_int, ↓x_nit, ↓x_inl, ↓x_nil, ↓x_isN, ↓x_notN, ↓x_neg, ↓x_lens, ↓x_lent, ↓x_lenl, ↓x_abs, ↓x_inti, ↓x_intb, ↓x_max, ↓x_min, ↓x_tofl, ↓x_toft, ↓x_lofl, ↓x_loft, ↓x_iseq, ↓x_sqt, ↓x_sql, ↓x_turn, ↓x_lstR1, ↓x_rg1, ↓x_rg2, ↓x_rgK, ↓x_rgK1, ↓x_rgK2, ↓x_isi_non_int, ↓x_isi_non_bool, ↓x_isi_non_str, ↓x_isi_non_tuple, ↓x_isi_non_list, ↓x_isi_bl_int, ↓x_isi_bl_bool, ↓x_isi_bl_str, ↓x_isi_bl_tuple, ↓x_isi_bl_list, ↓x_isi_int_int, ↓x_isi_int_bool, ↓x_isi_int_str, ↓x_isi_int_tuple, ↓x_isi_int_list, ↓x_isi_str_int, ↓x_isi_str_bool, ↓x_isi_str_str, ↓x_isi_str_tuple, ↓x_isi_str_list, ↓x_isi_tup_int, ↓x_isi_tup_bool, ↓x_isi_tup_str, ↓x_isi_tup_tuple, ↓x_isi_tup_list, ↓x_isi_lst_int, ↓x_isi_lst_bool, ↓x_isi_lst_str, ↓x_isi_lst_tuple, ↓x_isi_lst_list, ↓x_all, ↓x_any, ↓x_sum, ↓x_bln, ↓x_blc, ↓x_itn, ↓x_itc, x_wG, tyD, ↓x_pot0, ↓x_pot1, ↓x_pot2, ↓x_pset0, ↓x_pset2, ↓x_vK, ↓x_cutnn, ↓x_cutns, ↓x_cutsn, ↓x_cutl, ↓x_cutt, ↓x_kyi, ↓x_kys, ↓x_ops, ↓x_kin, ↓x_kidx, ↓x_bm, ↓x_kindl, ↓x_kinds, ↓x_eqb, ↓x_neb, KD_MOST_MOTION, K_QUARTERS, ↓x_bx]; refine main2 _ ?_; simp -implicitDefEqProofs only [↓x_cb, ↓x_anil, ↓x_cons, ↓x_toDo, ↓x_toD, ↓x_all, ↓stK_0, ↓stK_s]; exact fin)
    rcases hs with rfl | rfl
    · simp only [startD, List.map_cons, List.map_nil, List.length_cons, List.length_nil, Nat.reduceAdd, Nat.reduceSub, List.replicate_succ, List.replicate_zero, List.cons_append, List.nil_append]; simp -implicitDefEqProofs -dsimp [↓m_law_probed, ↓lkK_0, ↓lkK_s, ↓stK_0, ↓stK_s, ↓x_var, ↓x_asg, ↓x_gtN, ↓stSK_c, ↓stSK_n, ↓x_par, ↓wpK_n, ↓wpK_c, ↓x_lcz, ↓x_lc2z, ↓x_lc2T, ↓x_app, ↓x_ext, ↓x_setI, ↓x_idxV, ↓x_lenV, ↓x_dget, ↓x_din, ↓x_dput, ↓atK_0, ↓atK_1, ↓atK_2, ↓atK_3, ↓atK_m1, ↓atK_m2, ↓atK_m3, ↓atK_m4, ↓x_idxl, ↓x_idxt, ↓x_idxs, ↓x_ret, ↓x_retN, ↓x_seq, ↓x_sif, ↓x_snil, ↓x_exp, ↓x_nev, ↓x_brk, ↓x_cnt, ↓x_sfor, ↓x_moNil, ↓x_moCons, ↓x_asgT, ↓x_gtT, ↓x_gtCons, ↓x_gtNil, ↓x_retV, ↓x_mov, ↓x_c, ↓x_bin, ↓x_un, ↓x_and, ↓x_or, ↓x_not, ↓x_ifE, ↓x_chain, ↓x_cb, ↓x_anil, ↓x_cons, ↓x_star, ↓x_tup, ↓x_lst, ↓x_dic0, ↓x_call, ↓x_callK, ↓x_yes, ↓x_toD, ↓x_toDo, ↓x_toB, ↓x_wT, ↓x_wF, ↓x_wD, ↓x_wN, ↓x_sub, ↓x_mul, ↓x_fdv, ↓x_mod, ↓x_pow, ↓x_lt, ↓x_le, ↓x_gt, ↓x_ge, ↓x_addi, ↓x_adds, ↓x_addt, ↓x_addl, ↓x_eqi, ↓x_nei, ↓x_eqs, ↓x_nes, ↓x_int, ↓x_nit, ↓x_inl, ↓x_nil, ↓x_isN, ↓x_notN, ↓x_neg, ↓x_lens, ↓x_lent, ↓x_lenl, ↓x_abs, ↓x_inti, ↓x_intb, ↓x_max, ↓x_min, ↓x_tofl, ↓x_toft, ↓x_lofl, ↓x_loft, ↓x_iseq, ↓x_sqt, ↓x_sql, ↓x_turn, ↓x_lstR1, ↓x_rg1, ↓x_rg2, ↓x_rgK, ↓x_rgK1, ↓x_rgK2, ↓x_isi_non_int, ↓x_isi_non_bool, ↓x_isi_non_str, ↓x_isi_non_tuple, ↓x_isi_non_list, ↓x_isi_bl_int, ↓x_isi_bl_bool, ↓x_isi_bl_str, ↓x_isi_bl_tuple, ↓x_isi_bl_list, ↓x_isi_int_int, ↓x_isi_int_bool, ↓x_isi_int_str, ↓x_isi_int_tuple, ↓x_isi_int_list, ↓x_isi_str_int, ↓x_isi_str_bool, ↓x_isi_str_str, ↓x_isi_str_tuple, ↓x_isi_str_list, ↓x_isi_tup_int, ↓x_isi_tup_bool, ↓x_isi_tup_str, ↓x_isi_tup_tuple, ↓x_isi_tup_list, ↓x_isi_lst_int, ↓x_isi_lst_bool, ↓x_isi_lst_str, ↓x_isi_lst_tuple, ↓x_isi_lst_list, ↓x_all, ↓x_any, ↓x_sum, ↓x_bln, ↓x_blc, ↓x_itn, ↓x_itc, x_wG, tyD, ↓x_pot0, ↓x_pot1, ↓x_pot2, ↓x_pset0, ↓x_pset2, ↓x_vK, ↓x_cutnn, ↓x_cutns, ↓x_cutsn, ↓x_cutl, ↓x_cutt, ↓x_kyi, ↓x_kys, ↓x_ops, ↓x_kin, ↓x_kidx, ↓x_bm, ↓x_kindl, ↓x_kinds, ↓x_eqb, ↓x_neb, KD_MOST_MOTION, K_QUARTERS, ↓x_bx]
      exact main _ rfl
    · simp only [startD, List.map_cons, List.map_nil, List.length_cons, List.length_nil, Nat.reduceAdd, Nat.reduceSub, List.replicate_succ, List.replicate_zero, List.cons_append, List.nil_append]; simp -implicitDefEqProofs -dsimp [↓m_law_probed, ↓lkK_0, ↓lkK_s, ↓stK_0, ↓stK_s, ↓x_var, ↓x_asg, ↓x_gtN, ↓stSK_c, ↓stSK_n, ↓x_par, ↓wpK_n, ↓wpK_c, ↓x_lcz, ↓x_lc2z, ↓x_lc2T, ↓x_app, ↓x_ext, ↓x_setI, ↓x_idxV, ↓x_lenV, ↓x_dget, ↓x_din, ↓x_dput, ↓atK_0, ↓atK_1, ↓atK_2, ↓atK_3, ↓atK_m1, ↓atK_m2, ↓atK_m3, ↓atK_m4, ↓x_idxl, ↓x_idxt, ↓x_idxs, ↓x_ret, ↓x_retN, ↓x_seq, ↓x_sif, ↓x_snil, ↓x_exp, ↓x_nev, ↓x_brk, ↓x_cnt, ↓x_sfor, ↓x_moNil, ↓x_moCons, ↓x_asgT, ↓x_gtT, ↓x_gtCons, ↓x_gtNil, ↓x_retV, ↓x_mov, ↓x_c, ↓x_bin, ↓x_un, ↓x_and, ↓x_or, ↓x_not, ↓x_ifE, ↓x_chain, ↓x_cb, ↓x_anil, ↓x_cons, ↓x_star, ↓x_tup, ↓x_lst, ↓x_dic0, ↓x_call, ↓x_callK, ↓x_yes, ↓x_toD, ↓x_toDo, ↓x_toB, ↓x_wT, ↓x_wF, ↓x_wD, ↓x_wN, ↓x_sub, ↓x_mul, ↓x_fdv, ↓x_mod, ↓x_pow, ↓x_lt, ↓x_le, ↓x_gt, ↓x_ge, ↓x_addi, ↓x_adds, ↓x_addt, ↓x_addl, ↓x_eqi, ↓x_nei, ↓x_eqs, ↓x_nes, ↓x_int, ↓x_nit, ↓x_inl, ↓x_nil, ↓x_isN, ↓x_notN, ↓x_neg, ↓x_lens, ↓x_lent, ↓x_lenl, ↓x_abs, ↓x_inti, ↓x_intb, ↓x_max, ↓x_min, ↓x_tofl, ↓x_toft, ↓x_lofl, ↓x_loft, ↓x_iseq, ↓x_sqt, ↓x_sql, ↓x_turn, ↓x_lstR1, ↓x_rg1, ↓x_rg2, ↓x_rgK, ↓x_rgK1, ↓x_rgK2, ↓x_isi_non_int, ↓x_isi_non_bool, ↓x_isi_non_str, ↓x_isi_non_tuple, ↓x_isi_non_list, ↓x_isi_bl_int, ↓x_isi_bl_bool, ↓x_isi_bl_str, ↓x_isi_bl_tuple, ↓x_isi_bl_list, ↓x_isi_int_int, ↓x_isi_int_bool, ↓x_isi_int_str, ↓x_isi_int_tuple, ↓x_isi_int_list, ↓x_isi_str_int, ↓x_isi_str_bool, ↓x_isi_str_str, ↓x_isi_str_tuple, ↓x_isi_str_list, ↓x_isi_tup_int, ↓x_isi_tup_bool, ↓x_isi_tup_str, ↓x_isi_tup_tuple, ↓x_isi_tup_list, ↓x_isi_lst_int, ↓x_isi_lst_bool, ↓x_isi_lst_str, ↓x_isi_lst_tuple, ↓x_isi_lst_list, ↓x_all, ↓x_any, ↓x_sum, ↓x_bln, ↓x_blc, ↓x_itn, ↓x_itc, x_wG, tyD, ↓x_pot0, ↓x_pot1, ↓x_pot2, ↓x_pset0, ↓x_pset2, ↓x_vK, ↓x_cutnn, ↓x_cutns, ↓x_cutsn, ↓x_cutl, ↓x_cutt, ↓x_kyi, ↓x_kys, ↓x_ops, ↓x_kin, ↓x_kidx, ↓x_bm, ↓x_kindl, ↓x_kinds, ↓x_eqb, ↓x_neb, KD_MOST_MOTION, K_QUARTERS, ↓x_bx]
      exact main _ rfl
  · exact h.elim

def S_law_are_pairs_right : SpD := fun ds n R _ => match ds with
  | [.int s] => (s = 1 ∨ s = 2) ∧ R (.dat (.bl true)) n
  | _ => False
--LOOPS

def b1_law_are_pairs_right : MS := sSeq (sAsg 3 (mLc (iSeq (mVar 1)) (gtN 4) (mYes) (mCall S_law_probed (aCons (mVar 0) (aCons (mVar 2) (aCons (mVar 4) (aNil))))) [4])) (sSeq (sIf (mBin (gEq true) (mCB gRepr (aCons (mLc (iSeq (mVar 1)) (gtN 4) (mYes) (mCall S_joint_motion (aCons (mVar 0) (aCons (mVar 2) (aCons (mVar 4) (aNil))))) [4]) (aNil))) (mCB gRepr (aCons (mVar 3) (aNil)))) (sRet (mC (.bl false))) (sNil)) (sIf (mBin (gEq true) (mCB gRepr (aCons (mCall S_back_motion (aCons (mVar 0) (aCons (mVar 2) (aNil)))) (aNil))) (mCB gRepr (aCons (mBM "list" gLIndex (mVar 3) (aCons (mC (.int 0)) (aNil))) (aNil)))) (sRet (mC (.bl false))) (sNil)))
def m_law_are_pairs_right : MS := sSeq (sAsg 1 (mLstR1 (mIfE (mBin (gEq false) (mVar 0) (mC (.int 2))) (mC (.int 8)) (mC (.int 2))))) (sSeq (sFor (iSeq (mVar 1)) (gtN 2) (b1_law_are_pairs_right)) (sRet (mC (.bl true))))
def motsD (s : Int) : List D := (List.range (manyM s).toNat).map fun i => D.int (i : Nat)
theorem motsD_eq {s : Int} : rngD 0 (manyM s) = motsD s := rngD_eq _
theorem back_2 : ∀ a, a < 8 → (decide (mjI 2 (a : Nat) (bmI 2 (a : Nat)) = 0) && decide (0 ≤ bmI 2 (a : Nat)) && decide (bmI 2 (a : Nat) < 8) && (List.range (bmI 2 (a : Nat)).toNat).all fun m => decide (mjI 2 (a : Nat) (m : Nat) ≠ 0)) = true := by decide +kernel
theorem back_1 : ∀ a, a < 2 → (decide (mjI 1 (a : Nat) (bmI 1 (a : Nat)) = 0) && decide (0 ≤ bmI 1 (a : Nat)) && decide (bmI 1 (a : Nat) < 2) && (List.range (bmI 1 (a : Nat)).toNat).all fun m => decide (mjI 1 (a : Nat) (m : Nat) ≠ 0)) = true := by decide +kernel
theorem back_find {s a : Int} (hs : s = 1 ∨ s = 2) (a0 : 0 ≤ a) (a1 : a < manyM s) : mjI s a (bmI s a) = 0 ∧ 0 ≤ bmI s a ∧ bmI s a < manyM s ∧ ∀ m : Nat, (m : Int) < bmI s a → mjI s a m ≠ 0 := by
  obtain ⟨x, rfl⟩ := Int.eq_ofNat_of_zero_le a0
  rcases hs with rfl | rfl
  · have h := back_1 x (by simp [manyM] at a1; omega)
    simp only [Bool.and_eq_true, decide_eq_true_eq, List.all_eq_true, List.mem_range] at h
    exact ⟨h.1.1.1, h.1.1.2, h.1.2, fun m hm => h.2 m (by omega)⟩
  · have h := back_2 x (by simp [manyM] at a1; omega)
    simp only [Bool.and_eq_true, decide_eq_true_eq, List.all_eq_true, List.mem_range] at h
    exact ⟨h.1.1.1, h.1.1.2, h.1.2, fun m hm => h.2 m (by omega)⟩
theorem mjI_lt (s a b : Int) : mjI s a b < 8 := by
  unfold mjI; (repeat' split) <;> omega
theorem mostM_of {s m : Int} (hs : s = 1 ∨ s = 2) (h : m < manyM s) : m ≤ mostM s := by
  rcases hs with rfl | rfl <;> (simp [manyM, mostM] at *; omega)
theorem rp_mots {s a : Int} : Rp 1 ((((List.range (manyM s).toNat).map fun i => D.int (mjI s a (i : Nat)))).length * 4 + 3) (.lst ((List.range (manyM s).toNat).map fun i => D.int (mjI s a (i : Nat)))) :=
  Rp.lst fun d hd => by
    obtain ⟨i, _, rfl⟩ := List.mem_map.mp hd
    have h1 := mjI_nn s a i
    have h2 := mjI_lt s a i
    exact Rp.int (j := 1) (by decide) (by omega) (by have := log2_bd (n := (mjI s a i).natAbs) (k := 3) (by omega) (by decide); omega)
theorem sat_law_are_pairs_right : ∀ ds n R RX, S_law_are_pairs_right ds n R RX → fnM 1 5 m_law_are_pairs_right ds n R fun _ _ _ => False := by
  intro ds n R RX h
  unfold S_law_are_pairs_right at h
  split at h
  · rename_i s
    obtain ⟨hs, hR⟩ := h
    refine ⟨rfl, ?_⟩
    have m8 := manyM_le hs
    have main : ∀ (DD : ED) (s2 s3 s4 : S), (∀ ρ, DD.nx ρ n) → forL (gtN 2) b1_law_are_pairs_right DD (motsD s) [.dat (.int s), .dat (.lst (motsD s)), s2, s3, s4] n := by
      intro DD s2 s3 s4 hnx
      refine forL_ind (fun ds ρ n' => ∃ (as : List Nat) (s2 s3 s4 : S), ds = as.map (fun m => D.int (m : Nat)) ∧ (∀ m ∈ as, ((m : Nat) : Int) < manyM s) ∧ n' = n ∧ ρ = [.dat (.int s), .dat (.lst (motsD s)), s2, s3, s4]) ?_ ?_ _ _ _ ⟨List.range (manyM s).toNat, _, _, _, rfl, fun m hm => by simp at hm; omega, rfl, rfl⟩
      · rintro ρ n' ⟨as, s2, s3, s4, e, _, rfl, rfl⟩
        exact hnx _
      · rintro d ds ρ n' K hK ⟨as, s2, s3, s4, e, hm, rfl, rfl⟩
        cases as with
        | nil => cases e
        | cons a as =>
          cases e
          have ha := hm a List.mem_cons_self
          simp -implicitDefEqProofs -dsimp [↓b1_law_are_pairs_right, ↓lkK_0, ↓lkK_s, ↓stK_0, ↓stK_s, ↓x_var, ↓x_asg, ↓x_gtN, ↓stSK_c, ↓stSK_n, ↓x_par, ↓wpK_n, ↓wpK_c, ↓x_lcz, ↓x_lc2z, ↓x_lc2T, ↓x_app, ↓x_ext, ↓x_setI, ↓x_idxV, ↓x_lenV, ↓x_dget, ↓x_din, ↓x_dput, ↓atK_0, ↓atK_1, ↓atK_2, ↓atK_3, ↓atK_m1, ↓atK_m2, ↓atK_m3, ↓atK_m4, ↓x_idxl, ↓x_idxt, ↓x_idxs, ↓x_ret, ↓x_retN, ↓x_seq, ↓x_sif, ↓x_snil, ↓x_exp, ↓x_nev, ↓x_brk, ↓x_cnt, ↓x_sfor, ↓x_moNil, ↓x_moCons, ↓x_asgT, ↓x_gtT, ↓x_gtCons, ↓x_gtNil, ↓x_retV, ↓x_mov, ↓x_c, ↓x_bin, ↓x_un, ↓x_and, ↓x_or, ↓x_not, ↓x_ifE, ↓x_chain, ↓x_cb, ↓x_anil, ↓x_cons, ↓x_star, ↓x_tup, ↓x_lst, ↓x_dic0, ↓x_call, ↓x_callK, ↓x_yes, ↓x_toD, ↓x_toDo, ↓x_toB, ↓x_wT, ↓x_wF, ↓x_wD, ↓x_wN, ↓x_sub, ↓x_mul, ↓x_fdv, ↓x_mod, ↓x_pow, ↓x_lt, ↓x_le, ↓x_gt, ↓x_ge, ↓x_addi, ↓x_adds, ↓x_addt, ↓x_addl, ↓x_eqi, ↓x_nei, ↓x_eqs, ↓x_nes, ↓x_int, ↓x_nit, ↓x_inl, ↓x_nil, ↓x_isN, ↓x_notN, ↓x_neg, ↓x_lens, ↓x_lent, ↓x_lenl, ↓x_abs, ↓x_inti, ↓x_intb, ↓x_max, ↓x_min, ↓x_tofl, ↓x_toft, ↓x_lofl, ↓x_loft, ↓x_iseq, ↓x_sqt, ↓x_sql, ↓x_turn, ↓x_lstR1, ↓x_rg1, ↓x_rg2, ↓x_rgK, ↓x_rgK1, ↓x_rgK2, ↓x_isi_non_int, ↓x_isi_non_bool, ↓x_isi_non_str, ↓x_isi_non_tuple, ↓x_isi_non_list, ↓x_isi_bl_int, ↓x_isi_bl_bool, ↓x_isi_bl_str, ↓x_isi_bl_tuple, ↓x_isi_bl_list, ↓x_isi_int_int, ↓x_isi_int_bool, ↓x_isi_int_str, ↓x_isi_int_tuple, ↓x_isi_int_list, ↓x_isi_str_int, ↓x_isi_str_bool, ↓x_isi_str_str, ↓x_isi_str_tuple, ↓x_isi_str_list, ↓x_isi_tup_int, ↓x_isi_tup_bool, ↓x_isi_tup_str, ↓x_isi_tup_tuple, ↓x_isi_tup_list, ↓x_isi_lst_int, ↓x_isi_lst_bool, ↓x_isi_lst_str, ↓x_isi_lst_tuple, ↓x_isi_lst_list, ↓x_all, ↓x_any, ↓x_sum, ↓x_bln, ↓x_blc, ↓x_itn, ↓x_itc, x_wG, tyD, ↓x_pot0, ↓x_pot1, ↓x_pot2, ↓x_pset0, ↓x_pset2, ↓x_vK, ↓x_cutnn, ↓x_cutns, ↓x_cutsn, ↓x_cutl, ↓x_cutt, ↓x_kyi, ↓x_kys, ↓x_ops, ↓x_kin, ↓x_kidx, ↓x_bm, ↓x_kindl, ↓x_kinds, ↓x_eqb, ↓x_neb, KD_MOST_MOTION, K_QUARTERS, ↓x_bx]
          refine lcL_of (fun i : Nat => D.int (i : Nat)) (fun i : Nat => D.int (mjI s (a : Nat) (i : Nat))) (fun i hi acc n2 K2 hacc hK2 => ?_) n' (by simp; omega) ?_
          · simp at hi
            simp -implicitDefEqProofs -dsimp [↓S_law_probed, ↓lkK_0, ↓lkK_s, ↓stK_0, ↓stK_s, ↓x_var, ↓x_asg, ↓x_gtN, ↓stSK_c, ↓stSK_n, ↓x_par, ↓wpK_n, ↓wpK_c, ↓x_lcz, ↓x_lc2z, ↓x_lc2T, ↓x_app, ↓x_ext, ↓x_setI, ↓x_idxV, ↓x_lenV, ↓x_dget, ↓x_din, ↓x_dput, ↓atK_0, ↓atK_1, ↓atK_2, ↓atK_3, ↓atK_m1, ↓atK_m2, ↓atK_m3, ↓atK_m4, ↓x_idxl, ↓x_idxt, ↓x_idxs, ↓x_ret, ↓x_retN, ↓x_seq, ↓x_sif, ↓x_snil, ↓x_exp, ↓x_nev, ↓x_brk, ↓x_cnt, ↓x_sfor, ↓x_moNil, ↓x_moCons, ↓x_asgT, ↓x_gtT, ↓x_gtCons, ↓x_gtNil, ↓x_retV, ↓x_mov, ↓x_c, ↓x_bin, ↓x_un, ↓x_and, ↓x_or, ↓x_not, ↓x_ifE, ↓x_chain, ↓x_cb, ↓x_anil, ↓x_cons, ↓x_star, ↓x_tup, ↓x_lst, ↓x_dic0, ↓x_call, ↓x_callK, ↓x_yes, ↓x_toD, ↓x_toDo, ↓x_toB, ↓x_wT, ↓x_wF, ↓x_wD, ↓x_wN, ↓x_sub, ↓x_mul, ↓x_fdv, ↓x_mod, ↓x_pow, ↓x_lt, ↓x_le, ↓x_gt, ↓x_ge, ↓x_addi, ↓x_adds, ↓x_addt, ↓x_addl, ↓x_eqi, ↓x_nei, ↓x_eqs, ↓x_nes, ↓x_int, ↓x_nit, ↓x_inl, ↓x_nil, ↓x_isN, ↓x_notN, ↓x_neg, ↓x_lens, ↓x_lent, ↓x_lenl, ↓x_abs, ↓x_inti, ↓x_intb, ↓x_max, ↓x_min, ↓x_tofl, ↓x_toft, ↓x_lofl, ↓x_loft, ↓x_iseq, ↓x_sqt, ↓x_sql, ↓x_turn, ↓x_lstR1, ↓x_rg1, ↓x_rg2, ↓x_rgK, ↓x_rgK1, ↓x_rgK2, ↓x_isi_non_int, ↓x_isi_non_bool, ↓x_isi_non_str, ↓x_isi_non_tuple, ↓x_isi_non_list, ↓x_isi_bl_int, ↓x_isi_bl_bool, ↓x_isi_bl_str, ↓x_isi_bl_tuple, ↓x_isi_bl_list, ↓x_isi_int_int, ↓x_isi_int_bool, ↓x_isi_int_str, ↓x_isi_int_tuple, ↓x_isi_int_list, ↓x_isi_str_int, ↓x_isi_str_bool, ↓x_isi_str_str, ↓x_isi_str_tuple, ↓x_isi_str_list, ↓x_isi_tup_int, ↓x_isi_tup_bool, ↓x_isi_tup_str, ↓x_isi_tup_tuple, ↓x_isi_tup_list, ↓x_isi_lst_int, ↓x_isi_lst_bool, ↓x_isi_lst_str, ↓x_isi_lst_tuple, ↓x_isi_lst_list, ↓x_all, ↓x_any, ↓x_sum, ↓x_bln, ↓x_blc, ↓x_itn, ↓x_itc, x_wG, tyD, ↓x_pot0, ↓x_pot1, ↓x_pot2, ↓x_pset0, ↓x_pset2, ↓x_vK, ↓x_cutnn, ↓x_cutns, ↓x_cutsn, ↓x_cutl, ↓x_cutt, ↓x_kyi, ↓x_kys, ↓x_ops, ↓x_kin, ↓x_kidx, ↓x_bm, ↓x_kindl, ↓x_kinds, ↓x_eqb, ↓x_neb, KD_MOST_MOTION, K_QUARTERS, ↓x_bx]
            exact ⟨hs, ha, by omega, hacc, hK2⟩
          simp -implicitDefEqProofs -dsimp [↓lkK_0, ↓lkK_s, ↓stK_0, ↓stK_s, ↓x_var, ↓x_asg, ↓x_gtN, ↓stSK_c, ↓stSK_n, ↓x_par, ↓wpK_n, ↓wpK_c, ↓x_lcz, ↓x_lc2z, ↓x_lc2T, ↓x_app, ↓x_ext, ↓x_setI, ↓x_idxV, ↓x_lenV, ↓x_dget, ↓x_din, ↓x_dput, ↓atK_0, ↓atK_1, ↓atK_2, ↓atK_3, ↓atK_m1, ↓atK_m2, ↓atK_m3, ↓atK_m4, ↓x_idxl, ↓x_idxt, ↓x_idxs, ↓x_ret, ↓x_retN, ↓x_seq, ↓x_sif, ↓x_snil, ↓x_exp, ↓x_nev, ↓x_brk, ↓x_cnt, ↓x_sfor, ↓x_moNil, ↓x_moCons, ↓x_asgT, ↓x_gtT, ↓x_gtCons, ↓x_gtNil, ↓x_retV, ↓x_mov, ↓x_c, ↓x_bin, ↓x_un, ↓x_and, ↓x_or, ↓x_not, ↓x_ifE, ↓x_chain, ↓x_cb, ↓x_anil, ↓x_cons, ↓x_star, ↓x_tup, ↓x_lst, ↓x_dic0, ↓x_call, ↓x_callK, ↓x_yes, ↓x_toD, ↓x_toDo, ↓x_toB, ↓x_wT, ↓x_wF, ↓x_wD, ↓x_wN, ↓x_sub, ↓x_mul, ↓x_fdv, ↓x_mod, ↓x_pow, ↓x_lt, ↓x_le, ↓x_gt, ↓x_ge, ↓x_addi, ↓x_adds, ↓x_addt, ↓x_addl, ↓x_eqi, ↓x_nei, ↓x_eqs, ↓x_nes, ↓x_int, ↓x_nit, ↓x_inl, ↓x_nil, ↓x_isN, ↓x_notN, ↓x_neg, ↓x_lens, ↓x_lent, ↓x_lenl, ↓x_abs, ↓x_inti, ↓x_intb, ↓x_max, ↓x_min, ↓x_tofl, ↓x_toft, ↓x_lofl, ↓x_loft, ↓x_iseq, ↓x_sqt, ↓x_sql, ↓x_turn, ↓x_lstR1, ↓x_rg1, ↓x_rg2, ↓x_rgK, ↓x_rgK1, ↓x_rgK2, ↓x_isi_non_int, ↓x_isi_non_bool, ↓x_isi_non_str, ↓x_isi_non_tuple, ↓x_isi_non_list, ↓x_isi_bl_int, ↓x_isi_bl_bool, ↓x_isi_bl_str, ↓x_isi_bl_tuple, ↓x_isi_bl_list, ↓x_isi_int_int, ↓x_isi_int_bool, ↓x_isi_int_str, ↓x_isi_int_tuple, ↓x_isi_int_list, ↓x_isi_str_int, ↓x_isi_str_bool, ↓x_isi_str_str, ↓x_isi_str_tuple, ↓x_isi_str_list, ↓x_isi_tup_int, ↓x_isi_tup_bool, ↓x_isi_tup_str, ↓x_isi_tup_tuple, ↓x_isi_tup_list, ↓x_isi_lst_int, ↓x_isi_lst_bool, ↓x_isi_lst_str, ↓x_isi_lst_tuple, ↓x_isi_lst_list, ↓x_all, ↓x_any, ↓x_sum, ↓x_bln, ↓x_blc, ↓x_itn, ↓x_itc, x_wG, tyD, ↓x_pot0, ↓x_pot1, ↓x_pot2, ↓x_pset0, ↓x_pset2, ↓x_vK, ↓x_cutnn, ↓x_cutns, ↓x_cutsn, ↓x_cutl, ↓x_cutt, ↓x_kyi, ↓x_kys, ↓x_ops, ↓x_kin, ↓x_kidx, ↓x_bm, ↓x_kindl, ↓x_kinds, ↓x_eqb, ↓x_neb, KD_MOST_MOTION, K_QUARTERS, ↓x_bx]
          refine lcL_of (fun i : Nat => D.int (i : Nat)) (fun i : Nat => D.int (mjI s (a : Nat) (i : Nat))) (fun i hi acc n2 K2 hacc hK2 => ?_) n' (by simp; omega) ?_
          · simp at hi
            simp -implicitDefEqProofs -dsimp [↓S_joint_motion, ↓lkK_0, ↓lkK_s, ↓stK_0, ↓stK_s, ↓x_var, ↓x_asg, ↓x_gtN, ↓stSK_c, ↓stSK_n, ↓x_par, ↓wpK_n, ↓wpK_c, ↓x_lcz, ↓x_lc2z, ↓x_lc2T, ↓x_app, ↓x_ext, ↓x_setI, ↓x_idxV, ↓x_lenV, ↓x_dget, ↓x_din, ↓x_dput, ↓atK_0, ↓atK_1, ↓atK_2, ↓atK_3, ↓atK_m1, ↓atK_m2, ↓atK_m3, ↓atK_m4, ↓x_idxl, ↓x_idxt, ↓x_idxs, ↓x_ret, ↓x_retN, ↓x_seq, ↓x_sif, ↓x_snil, ↓x_exp, ↓x_nev, ↓x_brk, ↓x_cnt, ↓x_sfor, ↓x_moNil, ↓x_moCons, ↓x_asgT, ↓x_gtT, ↓x_gtCons, ↓x_gtNil, ↓x_retV, ↓x_mov, ↓x_c, ↓x_bin, ↓x_un, ↓x_and, ↓x_or, ↓x_not, ↓x_ifE, ↓x_chain, ↓x_cb, ↓x_anil, ↓x_cons, ↓x_star, ↓x_tup, ↓x_lst, ↓x_dic0, ↓x_call, ↓x_callK, ↓x_yes, ↓x_toD, ↓x_toDo, ↓x_toB, ↓x_wT, ↓x_wF, ↓x_wD, ↓x_wN, ↓x_sub, ↓x_mul, ↓x_fdv, ↓x_mod, ↓x_pow, ↓x_lt, ↓x_le, ↓x_gt, ↓x_ge, ↓x_addi, ↓x_adds, ↓x_addt, ↓x_addl, ↓x_eqi, ↓x_nei, ↓x_eqs, ↓x_nes, ↓x_int, ↓x_nit, ↓x_inl, ↓x_nil, ↓x_isN, ↓x_notN, ↓x_neg, ↓x_lens, ↓x_lent, ↓x_lenl, ↓x_abs, ↓x_inti, ↓x_intb, ↓x_max, ↓x_min, ↓x_tofl, ↓x_toft, ↓x_lofl, ↓x_loft, ↓x_iseq, ↓x_sqt, ↓x_sql, ↓x_turn, ↓x_lstR1, ↓x_rg1, ↓x_rg2, ↓x_rgK, ↓x_rgK1, ↓x_rgK2, ↓x_isi_non_int, ↓x_isi_non_bool, ↓x_isi_non_str, ↓x_isi_non_tuple, ↓x_isi_non_list, ↓x_isi_bl_int, ↓x_isi_bl_bool, ↓x_isi_bl_str, ↓x_isi_bl_tuple, ↓x_isi_bl_list, ↓x_isi_int_int, ↓x_isi_int_bool, ↓x_isi_int_str, ↓x_isi_int_tuple, ↓x_isi_int_list, ↓x_isi_str_int, ↓x_isi_str_bool, ↓x_isi_str_str, ↓x_isi_str_tuple, ↓x_isi_str_list, ↓x_isi_tup_int, ↓x_isi_tup_bool, ↓x_isi_tup_str, ↓x_isi_tup_tuple, ↓x_isi_tup_list, ↓x_isi_lst_int, ↓x_isi_lst_bool, ↓x_isi_lst_str, ↓x_isi_lst_tuple, ↓x_isi_lst_list, ↓x_all, ↓x_any, ↓x_sum, ↓x_bln, ↓x_blc, ↓x_itn, ↓x_itc, x_wG, tyD, ↓x_pot0, ↓x_pot1, ↓x_pot2, ↓x_pset0, ↓x_pset2, ↓x_vK, ↓x_cutnn, ↓x_cutns, ↓x_cutsn, ↓x_cutl, ↓x_cutt, ↓x_kyi, ↓x_kys, ↓x_ops, ↓x_kin, ↓x_kidx, ↓x_bm, ↓x_kindl, ↓x_kinds, ↓x_eqb, ↓x_neb, KD_MOST_MOTION, K_QUARTERS, ↓x_bx]
            exact ⟨hs, mostM_of hs ha, mostM_of hs (by omega), hacc, hK2⟩
          simp -implicitDefEqProofs -dsimp [↓lkK_0, ↓lkK_s, ↓stK_0, ↓stK_s, ↓x_var, ↓x_asg, ↓x_gtN, ↓stSK_c, ↓stSK_n, ↓x_par, ↓wpK_n, ↓wpK_c, ↓x_lcz, ↓x_lc2z, ↓x_lc2T, ↓x_app, ↓x_ext, ↓x_setI, ↓x_idxV, ↓x_lenV, ↓x_dget, ↓x_din, ↓x_dput, ↓atK_0, ↓atK_1, ↓atK_2, ↓atK_3, ↓atK_m1, ↓atK_m2, ↓atK_m3, ↓atK_m4, ↓x_idxl, ↓x_idxt, ↓x_idxs, ↓x_ret, ↓x_retN, ↓x_seq, ↓x_sif, ↓x_snil, ↓x_exp, ↓x_nev, ↓x_brk, ↓x_cnt, ↓x_sfor, ↓x_moNil, ↓x_moCons, ↓x_asgT, ↓x_gtT, ↓x_gtCons, ↓x_gtNil, ↓x_retV, ↓x_mov, ↓x_c, ↓x_bin, ↓x_un, ↓x_and, ↓x_or, ↓x_not, ↓x_ifE, ↓x_chain, ↓x_cb, ↓x_anil, ↓x_cons, ↓x_star, ↓x_tup, ↓x_lst, ↓x_dic0, ↓x_call, ↓x_callK, ↓x_yes, ↓x_toD, ↓x_toDo, ↓x_toB, ↓x_wT, ↓x_wF, ↓x_wD, ↓x_wN, ↓x_sub, ↓x_mul, ↓x_fdv, ↓x_mod, ↓x_pow, ↓x_lt, ↓x_le, ↓x_gt, ↓x_ge, ↓x_addi, ↓x_adds, ↓x_addt, ↓x_addl, ↓x_eqi, ↓x_nei, ↓x_eqs, ↓x_nes, ↓x_int, ↓x_nit, ↓x_inl, ↓x_nil, ↓x_isN, ↓x_notN, ↓x_neg, ↓x_lens, ↓x_lent, ↓x_lenl, ↓x_abs, ↓x_inti, ↓x_intb, ↓x_max, ↓x_min, ↓x_tofl, ↓x_toft, ↓x_lofl, ↓x_loft, ↓x_iseq, ↓x_sqt, ↓x_sql, ↓x_turn, ↓x_lstR1, ↓x_rg1, ↓x_rg2, ↓x_rgK, ↓x_rgK1, ↓x_rgK2, ↓x_isi_non_int, ↓x_isi_non_bool, ↓x_isi_non_str, ↓x_isi_non_tuple, ↓x_isi_non_list, ↓x_isi_bl_int, ↓x_isi_bl_bool, ↓x_isi_bl_str, ↓x_isi_bl_tuple, ↓x_isi_bl_list, ↓x_isi_int_int, ↓x_isi_int_bool, ↓x_isi_int_str, ↓x_isi_int_tuple, ↓x_isi_int_list, ↓x_isi_str_int, ↓x_isi_str_bool, ↓x_isi_str_str, ↓x_isi_str_tuple, ↓x_isi_str_list, ↓x_isi_tup_int, ↓x_isi_tup_bool, ↓x_isi_tup_str, ↓x_isi_tup_tuple, ↓x_isi_tup_list, ↓x_isi_lst_int, ↓x_isi_lst_bool, ↓x_isi_lst_str, ↓x_isi_lst_tuple, ↓x_isi_lst_list, ↓x_all, ↓x_any, ↓x_sum, ↓x_bln, ↓x_blc, ↓x_itn, ↓x_itc, x_wG, tyD, ↓x_pot0, ↓x_pot1, ↓x_pot2, ↓x_pset0, ↓x_pset2, ↓x_vK, ↓x_cutnn, ↓x_cutns, ↓x_cutsn, ↓x_cutl, ↓x_cutt, ↓x_kyi, ↓x_kys, ↓x_ops, ↓x_kin, ↓x_kidx, ↓x_bm, ↓x_kindl, ↓x_kinds, ↓x_eqb, ↓x_neb, KD_MOST_MOTION, K_QUARTERS, ↓x_bx]
          refine gRepr_of rp_mots (by decide) (by simp; omega) ?_
          simp -implicitDefEqProofs -dsimp [↓lkK_0, ↓lkK_s, ↓stK_0, ↓stK_s, ↓x_var, ↓x_asg, ↓x_gtN, ↓stSK_c, ↓stSK_n, ↓x_par, ↓wpK_n, ↓wpK_c, ↓x_lcz, ↓x_lc2z, ↓x_lc2T, ↓x_app, ↓x_ext, ↓x_setI, ↓x_idxV, ↓x_lenV, ↓x_dget, ↓x_din, ↓x_dput, ↓atK_0, ↓atK_1, ↓atK_2, ↓atK_3, ↓atK_m1, ↓atK_m2, ↓atK_m3, ↓atK_m4, ↓x_idxl, ↓x_idxt, ↓x_idxs, ↓x_ret, ↓x_retN, ↓x_seq, ↓x_sif, ↓x_snil, ↓x_exp, ↓x_nev, ↓x_brk, ↓x_cnt, ↓x_sfor, ↓x_moNil, ↓x_moCons, ↓x_asgT, ↓x_gtT, ↓x_gtCons, ↓x_gtNil, ↓x_retV, ↓x_mov, ↓x_c, ↓x_bin, ↓x_un, ↓x_and, ↓x_or, ↓x_not, ↓x_ifE, ↓x_chain, ↓x_cb, ↓x_anil, ↓x_cons, ↓x_star, ↓x_tup, ↓x_lst, ↓x_dic0, ↓x_call, ↓x_callK, ↓x_yes, ↓x_toD, ↓x_toDo, ↓x_toB, ↓x_wT, ↓x_wF, ↓x_wD, ↓x_wN, ↓x_sub, ↓x_mul, ↓x_fdv, ↓x_mod, ↓x_pow, ↓x_lt, ↓x_le, ↓x_gt, ↓x_ge, ↓x_addi, ↓x_adds, ↓x_addt, ↓x_addl, ↓x_eqi, ↓x_nei, ↓x_eqs, ↓x_nes, ↓x_int, ↓x_nit, ↓x_inl, ↓x_nil, ↓x_isN, ↓x_notN, ↓x_neg, ↓x_lens, ↓x_lent, ↓x_lenl, ↓x_abs, ↓x_inti, ↓x_intb, ↓x_max, ↓x_min, ↓x_tofl, ↓x_toft, ↓x_lofl, ↓x_loft, ↓x_iseq, ↓x_sqt, ↓x_sql, ↓x_turn, ↓x_lstR1, ↓x_rg1, ↓x_rg2, ↓x_rgK, ↓x_rgK1, ↓x_rgK2, ↓x_isi_non_int, ↓x_isi_non_bool, ↓x_isi_non_str, ↓x_isi_non_tuple, ↓x_isi_non_list, ↓x_isi_bl_int, ↓x_isi_bl_bool, ↓x_isi_bl_str, ↓x_isi_bl_tuple, ↓x_isi_bl_list, ↓x_isi_int_int, ↓x_isi_int_bool, ↓x_isi_int_str, ↓x_isi_int_tuple, ↓x_isi_int_list, ↓x_isi_str_int, ↓x_isi_str_bool, ↓x_isi_str_str, ↓x_isi_str_tuple, ↓x_isi_str_list, ↓x_isi_tup_int, ↓x_isi_tup_bool, ↓x_isi_tup_str, ↓x_isi_tup_tuple, ↓x_isi_tup_list, ↓x_isi_lst_int, ↓x_isi_lst_bool, ↓x_isi_lst_str, ↓x_isi_lst_tuple, ↓x_isi_lst_list, ↓x_all, ↓x_any, ↓x_sum, ↓x_bln, ↓x_blc, ↓x_itn, ↓x_itc, x_wG, tyD, ↓x_pot0, ↓x_pot1, ↓x_pot2, ↓x_pset0, ↓x_pset2, ↓x_vK, ↓x_cutnn, ↓x_cutns, ↓x_cutsn, ↓x_cutl, ↓x_cutt, ↓x_kyi, ↓x_kys, ↓x_ops, ↓x_kin, ↓x_kidx, ↓x_bm, ↓x_kindl, ↓x_kinds, ↓x_eqb, ↓x_neb, KD_MOST_MOTION, K_QUARTERS, ↓x_bx]
          refine gRepr_of rp_mots (by decide) (by simp; omega) ?_
          simp -implicitDefEqProofs -dsimp [↓S_back_motion, ↓lkK_0, ↓lkK_s, ↓stK_0, ↓stK_s, ↓x_var, ↓x_asg, ↓x_gtN, ↓stSK_c, ↓stSK_n, ↓x_par, ↓wpK_n, ↓wpK_c, ↓x_lcz, ↓x_lc2z, ↓x_lc2T, ↓x_app, ↓x_ext, ↓x_setI, ↓x_idxV, ↓x_lenV, ↓x_dget, ↓x_din, ↓x_dput, ↓atK_0, ↓atK_1, ↓atK_2, ↓atK_3, ↓atK_m1, ↓atK_m2, ↓atK_m3, ↓atK_m4, ↓x_idxl, ↓x_idxt, ↓x_idxs, ↓x_ret, ↓x_retN, ↓x_seq, ↓x_sif, ↓x_snil, ↓x_exp, ↓x_nev, ↓x_brk, ↓x_cnt, ↓x_sfor, ↓x_moNil, ↓x_moCons, ↓x_asgT, ↓x_gtT, ↓x_gtCons, ↓x_gtNil, ↓x_retV, ↓x_mov, ↓x_c, ↓x_bin, ↓x_un, ↓x_and, ↓x_or, ↓x_not, ↓x_ifE, ↓x_chain, ↓x_cb, ↓x_anil, ↓x_cons, ↓x_star, ↓x_tup, ↓x_lst, ↓x_dic0, ↓x_call, ↓x_callK, ↓x_yes, ↓x_toD, ↓x_toDo, ↓x_toB, ↓x_wT, ↓x_wF, ↓x_wD, ↓x_wN, ↓x_sub, ↓x_mul, ↓x_fdv, ↓x_mod, ↓x_pow, ↓x_lt, ↓x_le, ↓x_gt, ↓x_ge, ↓x_addi, ↓x_adds, ↓x_addt, ↓x_addl, ↓x_eqi, ↓x_nei, ↓x_eqs, ↓x_nes, ↓x_int, ↓x_nit, ↓x_inl, ↓x_nil, ↓x_isN, ↓x_notN, ↓x_neg, ↓x_lens, ↓x_lent, ↓x_lenl, ↓x_abs, ↓x_inti, ↓x_intb, ↓x_max, ↓x_min, ↓x_tofl, ↓x_toft, ↓x_lofl, ↓x_loft, ↓x_iseq, ↓x_sqt, ↓x_sql, ↓x_turn, ↓x_lstR1, ↓x_rg1, ↓x_rg2, ↓x_rgK, ↓x_rgK1, ↓x_rgK2, ↓x_isi_non_int, ↓x_isi_non_bool, ↓x_isi_non_str, ↓x_isi_non_tuple, ↓x_isi_non_list, ↓x_isi_bl_int, ↓x_isi_bl_bool, ↓x_isi_bl_str, ↓x_isi_bl_tuple, ↓x_isi_bl_list, ↓x_isi_int_int, ↓x_isi_int_bool, ↓x_isi_int_str, ↓x_isi_int_tuple, ↓x_isi_int_list, ↓x_isi_str_int, ↓x_isi_str_bool, ↓x_isi_str_str, ↓x_isi_str_tuple, ↓x_isi_str_list, ↓x_isi_tup_int, ↓x_isi_tup_bool, ↓x_isi_tup_str, ↓x_isi_tup_tuple, ↓x_isi_tup_list, ↓x_isi_lst_int, ↓x_isi_lst_bool, ↓x_isi_lst_str, ↓x_isi_lst_tuple, ↓x_isi_lst_list, ↓x_all, ↓x_any, ↓x_sum, ↓x_bln, ↓x_blc, ↓x_itn, ↓x_itc, x_wG, tyD, ↓x_pot0, ↓x_pot1, ↓x_pot2, ↓x_pset0, ↓x_pset2, ↓x_vK, ↓x_cutnn, ↓x_cutns, ↓x_cutsn, ↓x_cutl, ↓x_cutt, ↓x_kyi, ↓x_kys, ↓x_ops, ↓x_kin, ↓x_kidx, ↓x_bm, ↓x_kindl, ↓x_kinds, ↓x_eqb, ↓x_neb, KD_MOST_MOTION, K_QUARTERS, ↓x_bx]
          obtain ⟨f1, f2, f3, f4⟩ := back_find hs (a := (a : Int)) (by omega) ha
          refine ⟨hs, mostM_of hs ha, ?_⟩
          have rb : Rp 0 2 (.int (bmI s (a : Nat))) := Rp.int (j := 1) (by decide) (by omega) (by have := log2_bd (n := (bmI s (a : Nat)).natAbs) (k := 3) (by omega) (by decide); omega)
          refine gRepr_of rb (by decide) (by decide) ?_
          simp -implicitDefEqProofs -dsimp [↓lkK_0, ↓lkK_s, ↓stK_0, ↓stK_s, ↓x_var, ↓x_asg, ↓x_gtN, ↓stSK_c, ↓stSK_n, ↓x_par, ↓wpK_n, ↓wpK_c, ↓x_lcz, ↓x_lc2z, ↓x_lc2T, ↓x_app, ↓x_ext, ↓x_setI, ↓x_idxV, ↓x_lenV, ↓x_dget, ↓x_din, ↓x_dput, ↓atK_0, ↓atK_1, ↓atK_2, ↓atK_3, ↓atK_m1, ↓atK_m2, ↓atK_m3, ↓atK_m4, ↓x_idxl, ↓x_idxt, ↓x_idxs, ↓x_ret, ↓x_retN, ↓x_seq, ↓x_sif, ↓x_snil, ↓x_exp, ↓x_nev, ↓x_brk, ↓x_cnt, ↓x_sfor, ↓x_moNil, ↓x_moCons, ↓x_asgT, ↓x_gtT, ↓x_gtCons, ↓x_gtNil, ↓x_retV, ↓x_mov, ↓x_c, ↓x_bin, ↓x_un, ↓x_and, ↓x_or, ↓x_not, ↓x_ifE, ↓x_chain, ↓x_cb, ↓x_anil, ↓x_cons, ↓x_star, ↓x_tup, ↓x_lst, ↓x_dic0, ↓x_call, ↓x_callK, ↓x_yes, ↓x_toD, ↓x_toDo, ↓x_toB, ↓x_wT, ↓x_wF, ↓x_wD, ↓x_wN, ↓x_sub, ↓x_mul, ↓x_fdv, ↓x_mod, ↓x_pow, ↓x_lt, ↓x_le, ↓x_gt, ↓x_ge, ↓x_addi, ↓x_adds, ↓x_addt, ↓x_addl, ↓x_eqi, ↓x_nei, ↓x_eqs, ↓x_nes, ↓x_int, ↓x_nit, ↓x_inl, ↓x_nil, ↓x_isN, ↓x_notN, ↓x_neg, ↓x_lens, ↓x_lent, ↓x_lenl, ↓x_abs, ↓x_inti, ↓x_intb, ↓x_max, ↓x_min, ↓x_tofl, ↓x_toft, ↓x_lofl, ↓x_loft, ↓x_iseq, ↓x_sqt, ↓x_sql, ↓x_turn, ↓x_lstR1, ↓x_rg1, ↓x_rg2, ↓x_rgK, ↓x_rgK1, ↓x_rgK2, ↓x_isi_non_int, ↓x_isi_non_bool, ↓x_isi_non_str, ↓x_isi_non_tuple, ↓x_isi_non_list, ↓x_isi_bl_int, ↓x_isi_bl_bool, ↓x_isi_bl_str, ↓x_isi_bl_tuple, ↓x_isi_bl_list, ↓x_isi_int_int, ↓x_isi_int_bool, ↓x_isi_int_str, ↓x_isi_int_tuple, ↓x_isi_int_list, ↓x_isi_str_int, ↓x_isi_str_bool, ↓x_isi_str_str, ↓x_isi_str_tuple, ↓x_isi_str_list, ↓x_isi_tup_int, ↓x_isi_tup_bool, ↓x_isi_tup_str, ↓x_isi_tup_tuple, ↓x_isi_tup_list, ↓x_isi_lst_int, ↓x_isi_lst_bool, ↓x_isi_lst_str, ↓x_isi_lst_tuple, ↓x_isi_lst_list, ↓x_all, ↓x_any, ↓x_sum, ↓x_bln, ↓x_blc, ↓x_itn, ↓x_itc, x_wG, tyD, ↓x_pot0, ↓x_pot1, ↓x_pot2, ↓x_pset0, ↓x_pset2, ↓x_vK, ↓x_cutnn, ↓x_cutns, ↓x_cutsn, ↓x_cutl, ↓x_cutt, ↓x_kyi, ↓x_kys, ↓x_ops, ↓x_kin, ↓x_kidx, ↓x_bm, ↓x_kindl, ↓x_kinds, ↓x_eqb, ↓x_neb, KD_MOST_MOTION, K_QUARTERS, ↓x_bx]
          refine ⟨rfl, by simp [flatD], (bmI s (a : Nat)).toNat, .int 0, ?_, rfl, fun m z hm hz => ?_, ?_⟩
          · rw [List.getElem?_map, List.getElem?_range (by omega)]
            show some (D.int (mjI s (a : Nat) ((bmI s (a : Nat)).toNat : Nat))) = some (D.int 0)
            rw [show (((bmI s (a : Nat)).toNat : Nat) : Int) = bmI s (a : Nat) by omega, f1]
          · rw [List.getElem?_map, List.getElem?_range (by omega)] at hz
            cases hz
            have := f4 m (by omega)
            simpa [vOf, eqV] using this
          · rw [show (((bmI s (a : Nat)).toNat : Nat) : Int) = bmI s (a : Nat) by omega]
            simp -implicitDefEqProofs only [↓x_toD]
            refine gRepr_of rb (by decide) (by decide) ?_
            simp -implicitDefEqProofs -dsimp [↓lkK_0, ↓lkK_s, ↓stK_0, ↓stK_s, ↓x_var, ↓x_asg, ↓x_gtN, ↓stSK_c, ↓stSK_n, ↓x_par, ↓wpK_n, ↓wpK_c, ↓x_lcz, ↓x_lc2z, ↓x_lc2T, ↓x_app, ↓x_ext, ↓x_setI, ↓x_idxV, ↓x_lenV, ↓x_dget, ↓x_din, ↓x_dput, ↓atK_0, ↓atK_1, ↓atK_2, ↓atK_3, ↓atK_m1, ↓atK_m2, ↓atK_m3, ↓atK_m4, ↓x_idxl, ↓x_idxt, ↓x_idxs, ↓x_ret, ↓x_retN, ↓x_seq, ↓x_sif, ↓x_snil, ↓x_exp, ↓x_nev, ↓x_brk, ↓x_cnt, ↓x_sfor, ↓x_moNil, ↓x_moCons, ↓x_asgT, ↓x_gtT, ↓x_gtCons, ↓x_gtNil, ↓x_retV, ↓x_mov, ↓x_c, ↓x_bin, ↓x_un, ↓x_and, ↓x_or, ↓x_not, ↓x_ifE, ↓x_chain, ↓x_cb, ↓x_anil, ↓x_cons, ↓x_star, ↓x_tup, ↓x_lst, ↓x_dic0, ↓x_call, ↓x_callK, ↓x_yes, ↓x_toD, ↓x_toDo, ↓x_toB, ↓x_wT, ↓x_wF, ↓x_wD, ↓x_wN, ↓x_sub, ↓x_mul, ↓x_fdv, ↓x_mod, ↓x_pow, ↓x_lt, ↓x_le, ↓x_gt, ↓x_ge, ↓x_addi, ↓x_adds, ↓x_addt, ↓x_addl, ↓x_eqi, ↓x_nei, ↓x_eqs, ↓x_nes, ↓x_int, ↓x_nit, ↓x_inl, ↓x_nil, ↓x_isN, ↓x_notN, ↓x_neg, ↓x_lens, ↓x_lent, ↓x_lenl, ↓x_abs, ↓x_inti, ↓x_intb, ↓x_max, ↓x_min, ↓x_tofl, ↓x_toft, ↓x_lofl, ↓x_loft, ↓x_iseq, ↓x_sqt, ↓x_sql, ↓x_turn, ↓x_lstR1, ↓x_rg1, ↓x_rg2, ↓x_rgK, ↓x_rgK1, ↓x_rgK2, ↓x_isi_non_int, ↓x_isi_non_bool, ↓x_isi_non_str, ↓x_isi_non_tuple, ↓x_isi_non_list, ↓x_isi_bl_int, ↓x_isi_bl_bool, ↓x_isi_bl_str, ↓x_isi_bl_tuple, ↓x_isi_bl_list, ↓x_isi_int_int, ↓x_isi_int_bool, ↓x_isi_int_str, ↓x_isi_int_tuple, ↓x_isi_int_list, ↓x_isi_str_int, ↓x_isi_str_bool, ↓x_isi_str_str, ↓x_isi_str_tuple, ↓x_isi_str_list, ↓x_isi_tup_int, ↓x_isi_tup_bool, ↓x_isi_tup_str, ↓x_isi_tup_tuple, ↓x_isi_tup_list, ↓x_isi_lst_int, ↓x_isi_lst_bool, ↓x_isi_lst_str, ↓x_isi_lst_tuple, ↓x_isi_lst_list, ↓x_all, ↓x_any, ↓x_sum, ↓x_bln, ↓x_blc, ↓x_itn, ↓x_itc, x_wG, tyD, ↓x_pot0, ↓x_pot1, ↓x_pot2, ↓x_pset0, ↓x_pset2, ↓x_vK, ↓x_cutnn, ↓x_cutns, ↓x_cutsn, ↓x_cutl, ↓x_cutt, ↓x_kyi, ↓x_kys, ↓x_ops, ↓x_kin, ↓x_kidx, ↓x_bm, ↓x_kindl, ↓x_kinds, ↓x_eqb, ↓x_neb, KD_MOST_MOTION, K_QUARTERS, ↓x_bx]
            exact hK _ _ ⟨as, _, _, _, rfl, fun x hx => hm x (List.mem_cons_of_mem _ hx), rfl, rfl⟩
    rcases hs with rfl | rfl
    · simp only [startD, List.map_cons, List.map_nil, List.length_cons, List.length_nil, Nat.reduceAdd, Nat.reduceSub, List.replicate_succ, List.replicate_zero, List.cons_append, List.nil_append]; simp -implicitDefEqProofs -dsimp [↓m_law_are_pairs_right, ↓lkK_0, ↓lkK_s, ↓stK_0, ↓stK_s, ↓x_var, ↓x_asg, ↓x_gtN, ↓stSK_c, ↓stSK_n, ↓x_par, ↓wpK_n, ↓wpK_c, ↓x_lcz, ↓x_lc2z, ↓x_lc2T, ↓x_app, ↓x_ext, ↓x_setI, ↓x_idxV, ↓x_lenV, ↓x_dget, ↓x_din, ↓x_dput, ↓atK_0, ↓atK_1, ↓atK_2, ↓atK_3, ↓atK_m1, ↓atK_m2, ↓atK_m3, ↓atK_m4, ↓x_idxl, ↓x_idxt, ↓x_idxs, ↓x_ret, ↓x_retN, ↓x_seq, ↓x_sif, ↓x_snil, ↓x_exp, ↓x_nev, ↓x_brk, ↓x_cnt, ↓x_sfor, ↓x_moNil, ↓x_moCons, ↓x_asgT, ↓x_gtT, ↓x_gtCons, ↓x_gtNil, ↓x_retV, ↓x_mov, ↓x_c, ↓x_bin, ↓x_un, ↓x_and, ↓x_or, ↓x_not, ↓x_ifE, ↓x_chain, ↓x_cb, ↓x_anil, ↓x_cons, ↓x_star, ↓x_tup, ↓x_lst, ↓x_dic0, ↓x_call, ↓x_callK, ↓x_yes, ↓x_toD, ↓x_toDo, ↓x_toB, ↓x_wT, ↓x_wF, ↓x_wD, ↓x_wN, ↓x_sub, ↓x_mul, ↓x_fdv, ↓x_mod, ↓x_pow, ↓x_lt, ↓x_le, ↓x_gt, ↓x_ge, ↓x_addi, ↓x_adds, ↓x_addt, ↓x_addl, ↓x_eqi, ↓x_nei, ↓x_eqs, ↓x_nes, ↓x_int, ↓x_nit, ↓x_inl, ↓x_nil, ↓x_isN, ↓x_notN, ↓x_neg, ↓x_lens, ↓x_lent, ↓x_lenl, ↓x_abs, ↓x_inti, ↓x_intb, ↓x_max, ↓x_min, ↓x_tofl, ↓x_toft, ↓x_lofl, ↓x_loft, ↓x_iseq, ↓x_sqt, ↓x_sql, ↓x_turn, ↓x_lstR1, ↓x_rg1, ↓x_rg2, ↓x_rgK, ↓x_rgK1, ↓x_rgK2, ↓x_isi_non_int, ↓x_isi_non_bool, ↓x_isi_non_str, ↓x_isi_non_tuple, ↓x_isi_non_list, ↓x_isi_bl_int, ↓x_isi_bl_bool, ↓x_isi_bl_str, ↓x_isi_bl_tuple, ↓x_isi_bl_list, ↓x_isi_int_int, ↓x_isi_int_bool, ↓x_isi_int_str, ↓x_isi_int_tuple, ↓x_isi_int_list, ↓x_isi_str_int, ↓x_isi_str_bool, ↓x_isi_str_str, ↓x_isi_str_tuple, ↓x_isi_str_list, ↓x_isi_tup_int, ↓x_isi_tup_bool, ↓x_isi_tup_str, ↓x_isi_tup_tuple, ↓x_isi_tup_list, ↓x_isi_lst_int, ↓x_isi_lst_bool, ↓x_isi_lst_str, ↓x_isi_lst_tuple, ↓x_isi_lst_list, ↓x_all, ↓x_any, ↓x_sum, ↓x_bln, ↓x_blc, ↓x_itn, ↓x_itc, x_wG, tyD, ↓x_pot0, ↓x_pot1, ↓x_pot2, ↓x_pset0, ↓x_pset2, ↓x_vK, ↓x_cutnn, ↓x_cutns, ↓x_cutsn, ↓x_cutl, ↓x_cutt, ↓x_kyi, ↓x_kys, ↓x_ops, ↓x_kin, ↓x_kidx, ↓x_bm, ↓x_kindl, ↓x_kinds, ↓x_eqb, ↓x_neb, KD_MOST_MOTION, K_QUARTERS, ↓x_bx]
      refine main _ _ _ _ fun ρ => ?_
      simp -implicitDefEqProofs -dsimp [↓lkK_0, ↓lkK_s, ↓stK_0, ↓stK_s, ↓x_var, ↓x_asg, ↓x_gtN, ↓stSK_c, ↓stSK_n, ↓x_par, ↓wpK_n, ↓wpK_c, ↓x_lcz, ↓x_lc2z, ↓x_lc2T, ↓x_app, ↓x_ext, ↓x_setI, ↓x_idxV, ↓x_lenV, ↓x_dget, ↓x_din, ↓x_dput, ↓atK_0, ↓atK_1, ↓atK_2, ↓atK_3, ↓atK_m1, ↓atK_m2, ↓atK_m3, ↓atK_m4, ↓x_idxl, ↓x_idxt, ↓x_idxs, ↓x_ret, ↓x_retN, ↓x_seq, ↓x_sif, ↓x_snil, ↓x_exp, ↓x_nev, ↓x_brk, ↓x_cnt, ↓x_sfor, ↓x_moNil, ↓x_moCons, ↓x_asgT, ↓x_gtT, ↓x_gtCons, ↓x_gtNil, ↓x_retV, ↓x_mov, ↓x_c, ↓x_bin, ↓x_un, ↓x_and, ↓x_or, ↓x_not, ↓x_ifE, ↓x_chain, ↓x_cb, ↓x_anil, ↓x_cons, ↓x_star, ↓x_tup, ↓x_lst, ↓x_dic0, ↓x_call, ↓x_callK, ↓x_yes, ↓x_toD, ↓x_toDo, ↓x_toB, ↓x_wT, ↓x_wF, ↓x_wD, ↓x_wN, ↓x_sub, ↓x_mul, ↓x_fdv, ↓x_mod, ↓x_pow, ↓x_lt, ↓x_le, ↓x_gt, ↓x_ge, ↓x_addi, ↓x_adds, ↓x_addt, ↓x_addl, ↓x_eqi, ↓x_nei, ↓x_eqs, ↓x_nes, ↓x_int, ↓x_nit, ↓x_inl, ↓x_nil, ↓x_isN, ↓x_notN, ↓x_neg, ↓x_lens, ↓x_lent, ↓x_lenl, ↓x_abs, ↓x_inti, ↓x_intb, ↓x_max, ↓x_min, ↓x_tofl, ↓x_toft, ↓x_lofl, ↓x_loft, ↓x_iseq, ↓x_sqt, ↓x_sql, ↓x_turn, ↓x_lstR1, ↓x_rg1, ↓x_rg2, ↓x_rgK, ↓x_rgK1, ↓x_rgK2, ↓x_isi_non_int, ↓x_isi_non_bool, ↓x_isi_non_str, ↓x_isi_non_tuple, ↓x_isi_non_list, ↓x_isi_bl_int, ↓x_isi_bl_bool, ↓x_isi_bl_str, ↓x_isi_bl_tuple, ↓x_isi_bl_list, ↓x_isi_int_int, ↓x_isi_int_bool, ↓x_isi_int_str, ↓x_isi_int_tuple, ↓x_isi_int_list, ↓x_isi_str_int, ↓x_isi_str_bool, ↓x_isi_str_str, ↓x_isi_str_tuple, ↓x_isi_str_list, ↓x_isi_tup_int, ↓x_isi_tup_bool, ↓x_isi_tup_str, ↓x_isi_tup_tuple, ↓x_isi_tup_list, ↓x_isi_lst_int, ↓x_isi_lst_bool, ↓x_isi_lst_str, ↓x_isi_lst_tuple, ↓x_isi_lst_list, ↓x_all, ↓x_any, ↓x_sum, ↓x_bln, ↓x_blc, ↓x_itn, ↓x_itc, x_wG, tyD, ↓x_pot0, ↓x_pot1, ↓x_pot2, ↓x_pset0, ↓x_pset2, ↓x_vK, ↓x_cutnn, ↓x_cutns, ↓x_cutsn, ↓x_cutl, ↓x_cutt, ↓x_kyi, ↓x_kys, ↓x_ops, ↓x_kin, ↓x_kidx, ↓x_bm, ↓x_kindl, ↓x_kinds, ↓x_eqb, ↓x_neb, KD_MOST_MOTION, K_QUARTERS, ↓x_bx]
      exact hR
    · simp only [startD, List.map_cons, List.map_nil, List.length_cons, List.length_nil, Nat.reduceAdd, Nat.reduceSub, List.replicate_succ, List.replicate_zero, List.cons_append, List.nil_append]; simp -implicitDefEqProofs -dsimp [↓m_law_are_pairs_right, ↓lkK_0, ↓lkK_s, ↓stK_0, ↓stK_s, ↓x_var, ↓x_asg, ↓x_gtN, ↓stSK_c, ↓stSK_n, ↓x_par, ↓wpK_n, ↓wpK_c, ↓x_lcz, ↓x_lc2z, ↓x_lc2T, ↓x_app, ↓x_ext, ↓x_setI, ↓x_idxV, ↓x_lenV, ↓x_dget, ↓x_din, ↓x_dput, ↓atK_0, ↓atK_1, ↓atK_2, ↓atK_3, ↓atK_m1, ↓atK_m2, ↓atK_m3, ↓atK_m4, ↓x_idxl, ↓x_idxt, ↓x_idxs, ↓x_ret, ↓x_retN, ↓x_seq, ↓x_sif, ↓x_snil, ↓x_exp, ↓x_nev, ↓x_brk, ↓x_cnt, ↓x_sfor, ↓x_moNil, ↓x_moCons, ↓x_asgT, ↓x_gtT, ↓x_gtCons, ↓x_gtNil, ↓x_retV, ↓x_mov, ↓x_c, ↓x_bin, ↓x_un, ↓x_and, ↓x_or, ↓x_not, ↓x_ifE, ↓x_chain, ↓x_cb, ↓x_anil, ↓x_cons, ↓x_star, ↓x_tup, ↓x_lst, ↓x_dic0, ↓x_call, ↓x_callK, ↓x_yes, ↓x_toD, ↓x_toDo, ↓x_toB, ↓x_wT, ↓x_wF, ↓x_wD, ↓x_wN, ↓x_sub, ↓x_mul, ↓x_fdv, ↓x_mod, ↓x_pow, ↓x_lt, ↓x_le, ↓x_gt, ↓x_ge, ↓x_addi, ↓x_adds, ↓x_addt, ↓x_addl, ↓x_eqi, ↓x_nei, ↓x_eqs, ↓x_nes, ↓x_int, ↓x_nit, ↓x_inl, ↓x_nil, ↓x_isN, ↓x_notN, ↓x_neg, ↓x_lens, ↓x_lent, ↓x_lenl, ↓x_abs, ↓x_inti, ↓x_intb, ↓x_max, ↓x_min, ↓x_tofl, ↓x_toft, ↓x_lofl, ↓x_loft, ↓x_iseq, ↓x_sqt, ↓x_sql, ↓x_turn, ↓x_lstR1, ↓x_rg1, ↓x_rg2, ↓x_rgK, ↓x_rgK1, ↓x_rgK2, ↓x_isi_non_int, ↓x_isi_non_bool, ↓x_isi_non_str, ↓x_isi_non_tuple, ↓x_isi_non_list, ↓x_isi_bl_int, ↓x_isi_bl_bool, ↓x_isi_bl_str, ↓x_isi_bl_tuple, ↓x_isi_bl_list, ↓x_isi_int_int, ↓x_isi_int_bool, ↓x_isi_int_str, ↓x_isi_int_tuple, ↓x_isi_int_list, ↓x_isi_str_int, ↓x_isi_str_bool, ↓x_isi_str_str, ↓x_isi_str_tuple, ↓x_isi_str_list, ↓x_isi_tup_int, ↓x_isi_tup_bool, ↓x_isi_tup_str, ↓x_isi_tup_tuple, ↓x_isi_tup_list, ↓x_isi_lst_int, ↓x_isi_lst_bool, ↓x_isi_lst_str, ↓x_isi_lst_tuple, ↓x_isi_lst_list, ↓x_all, ↓x_any, ↓x_sum, ↓x_bln, ↓x_blc, ↓x_itn, ↓x_itc, x_wG, tyD, ↓x_pot0, ↓x_pot1, ↓x_pot2, ↓x_pset0, ↓x_pset2, ↓x_vK, ↓x_cutnn, ↓x_cutns, ↓x_cutsn, ↓x_cutl, ↓x_cutt, ↓x_kyi, ↓x_kys, ↓x_ops, ↓x_kin, ↓x_kidx, ↓x_bm, ↓x_kindl, ↓x_kinds, ↓x_eqb, ↓x_neb, KD_MOST_MOTION, K_QUARTERS, ↓x_bx]
      refine main _ _ _ _ fun ρ => ?_
      simp -implicitDefEqProofs -dsimp [↓lkK_0, ↓lkK_s, ↓stK_0, ↓stK_s, ↓x_var, ↓x_asg, ↓x_gtN, ↓stSK_c, ↓stSK_n, ↓x_par, ↓wpK_n, ↓wpK_c, ↓x_lcz, ↓x_lc2z, ↓x_lc2T, ↓x_app, ↓x_ext, ↓x_setI, ↓x_idxV, ↓x_lenV, ↓x_dget, ↓x_din, ↓x_dput, ↓atK_0, ↓atK_1, ↓atK_2, ↓atK_3, ↓atK_m1, ↓atK_m2, ↓atK_m3, ↓atK_m4, ↓x_idxl, ↓x_idxt, ↓x_idxs, ↓x_ret, ↓x_retN, ↓x_seq, ↓x_sif, ↓x_snil, ↓x_exp, ↓x_nev, ↓x_brk, ↓x_cnt, ↓x_sfor, ↓x_moNil, ↓x_moCons, ↓x_asgT, ↓x_gtT, ↓x_gtCons, ↓x_gtNil, ↓x_retV, ↓x_mov, ↓x_c, ↓x_bin, ↓x_un, ↓x_and, ↓x_or, ↓x_not, ↓x_ifE, ↓x_chain, ↓x_cb, ↓x_anil, ↓x_cons, ↓x_star, ↓x_tup, ↓x_lst, ↓x_dic0, ↓x_call, ↓x_callK, ↓x_yes, ↓x_toD, ↓x_toDo, ↓x_toB, ↓x_wT, ↓x_wF, ↓x_wD, ↓x_wN, ↓x_sub, ↓x_mul, ↓x_fdv, ↓x_mod, ↓x_pow, ↓x_lt, ↓x_le, ↓x_gt, ↓x_ge, ↓x_addi, ↓x_adds, ↓x_addt, ↓x_addl, ↓x_eqi, ↓x_nei, ↓x_eqs, ↓x_nes, ↓x_int, ↓x_nit, ↓x_inl, ↓x_nil, ↓x_isN, ↓x_notN, ↓x_neg, ↓x_lens, ↓x_lent, ↓x_lenl, ↓x_abs, ↓x_inti, ↓x_intb, ↓x_max, ↓x_min, ↓x_tofl, ↓x_toft, ↓x_lofl, ↓x_loft, ↓x_iseq, ↓x_sqt, ↓x_sql, ↓x_turn, ↓x_lstR1, ↓x_rg1, ↓x_rg2, ↓x_rgK, ↓x_rgK1, ↓x_rgK2, ↓x_isi_non_int, ↓x_isi_non_bool, ↓x_isi_non_str, ↓x_isi_non_tuple, ↓x_isi_non_list, ↓x_isi_bl_int, ↓x_isi_bl_bool, ↓x_isi_bl_str, ↓x_isi_bl_tuple, ↓x_isi_bl_list, ↓x_isi_int_int, ↓x_isi_int_bool, ↓x_isi_int_str, ↓x_isi_int_tuple, ↓x_isi_int_list, ↓x_isi_str_int, ↓x_isi_str_bool, ↓x_isi_str_str, ↓x_isi_str_tuple, ↓x_isi_str_list, ↓x_isi_tup_int, ↓x_isi_tup_bool, ↓x_isi_tup_str, ↓x_isi_tup_tuple, ↓x_isi_tup_list, ↓x_isi_lst_int, ↓x_isi_lst_bool, ↓x_isi_lst_str, ↓x_isi_lst_tuple, ↓x_isi_lst_list, ↓x_all, ↓x_any, ↓x_sum, ↓x_bln, ↓x_blc, ↓x_itn, ↓x_itc, x_wG, tyD, ↓x_pot0, ↓x_pot1, ↓x_pot2, ↓x_pset0, ↓x_pset2, ↓x_vK, ↓x_cutnn, ↓x_cutns, ↓x_cutsn, ↓x_cutl, ↓x_cutt, ↓x_kyi, ↓x_kys, ↓x_ops, ↓x_kin, ↓x_kidx, ↓x_bm, ↓x_kindl, ↓x_kinds, ↓x_eqb, ↓x_neb, KD_MOST_MOTION, K_QUARTERS, ↓x_bx]
      exact hR
  · exact h.elim

def S_law_is_led_right : SpD := fun ds n R _ => match ds with
  | [.pot, .int s] => (s = 1 ∨ s = 2) ∧ n ≤ 900000 ∧ ∀ n', n ≤ n' → n' ≤ n + 10 → R (.dat (.bl true)) n'
  | _ => False

def m_law_is_led_right : MS := sSeq (sAsg 2 (mIfE (mBin (gEq false) (mVar 1) (mC (.int 2))) (mC (.int 8)) (mC (.int 2)))) (sSeq (sParN [3, 4, 5] (moCons (mCall S_law_take (aCons (mVar 0) (aCons (mVar 2) (aNil)))) (moCons (mCall S_law_take (aCons (mVar 0) (aCons (mVar 2) (aNil)))) (moCons (mCall S_law_of (aCons (mVar 0) (aCons (mLst (aCons (mC (.int 1)) (aCons (mC (.int 2)) (aCons (mC (.int 7)) (aCons (mC (.int 60)) (aCons (mC (.int 961)) (aCons (mBin gPow (mC (.int 10)) (mC (.int 12))) (aCons (mC (.int 30)) (aNil))))))))) (aNil)))) (moNil))))) (sSeq (sAsg 6 (mCB gTupOf (aCons (mLc (iRg1 (aCons (mVar 1) (aNil))) (gtN 13) (mYes) (mCall S_law_take (aCons (mVar 0) (aCons (mBin gAdd (mVar 5) (mC (.int 1))) (aNil)))) [13]) (aNil)))) (sSeq (sParN [7, 8] (moCons (mCall S_law_fractions (aCons (mVar 5) (aCons (mVar 6) (aNil)))) (moCons (mCall S_law_led (aCons (mVar 3) (aCons (mVar 5) (aCons (mVar 6) (aNil))))) (moNil)))) (sSeq (sIf (mBin (gEq true) (mCB gRepr (aCons (mCall S_point_under (aCons (mVar 1) (aCons (mVar 3) (aCons (mVar 7) (aNil))))) (aNil))) (mCB gRepr (aCons (mCall S_law_fractions (aCons (mVar 5) (aCons (mVar 8) (aNil)))) (aNil)))) (sRet (mC (.bl false))) (sNil)) (sSeq (sAsg 9 (mCall S_point_under (aCons (mVar 1) (aCons (mCall S_joint_motion (aCons (mVar 1) (aCons (mVar 3) (aCons (mVar 4) (aNil))))) (aCons (mVar 7) (aNil)))))) (sSeq (sIf (mBin (gEq true) (mCB gRepr (aCons (mVar 9) (aNil))) (mCB gRepr (aCons (mCall S_law_fractions (aCons (mVar 5) (aCons (mCall S_law_led (aCons (mVar 4) (aCons (mVar 5) (aCons (mVar 8) (aNil))))) (aNil)))) (aNil)))) (sRet (mC (.bl false))) (sNil)) (sSeq (sAsg 10 (mCall S_law_of (aCons (mVar 0) (aCons (mLst (aCons (mC (.int 1)) (aCons (mC (.int 2)) (aCons (mC (.int 3)) (aCons (mC (.int 4)) (aCons (mC (.int 16)) (aCons (mC (.int 81)) (aCons (mBin gPow (mC (.int 10)) (mC (.int 20))) (aNil))))))))) (aNil))))) (sSeq (sAsg 11 (mCB gTupOf (aCons (mLc (iRg1 (aCons (mVar 1) (aNil))) (gtN 13) (mYes) (mCall S_law_take (aCons (mVar 0) (aCons (mVar 10) (aNil)))) [13]) (aNil)))) (sSeq (sAsg 12 (mCall S_cell_under (aCons (mVar 1) (aCons (mVar 10) (aCons (mVar 3) (aCons (mVar 11) (aNil))))))) (sSeq (sIf (mBin (gEq true) (mCB gRepr (aCons (mVar 12) (aNil))) (mCB gRepr (aCons (mCall S_law_led (aCons (mVar 3) (aCons (mBin PL.gSub (mVar 10) (mC (.int 1))) (aCons (mVar 11) (aNil))))) (aNil)))) (sRet (mC (.bl false))) (sNil)) (sRet (mBin (gEq false) (mCB gRepr (aCons (mCall S_cell_under (aCons (mVar 1) (aCons (mVar 10) (aCons (mCall S_back_motion (aCons (mVar 1) (aCons (mVar 3) (aNil)))) (aCons (mVar 12) (aNil)))))) (aNil))) (mCB gRepr (aCons (mVar 11) (aNil)))))))))))))))
theorem cases8 {a : Int} (a0 : 0 ≤ a) (a1 : a < 8) : a = 0 ∨ a = 1 ∨ a = 2 ∨ a = 3 ∨ a = 4 ∨ a = 5 ∨ a = 6 ∨ a = 7 := by omega
theorem led_v (low x y : Int) : ledL 0 low [x, y] = [x, y] ∧ ledL 1 low [x, y] = [low - y, x] ∧ ledL 2 low [x, y] = [low - x, low - y] ∧ ledL 3 low [x, y] = [low - (low - y), low - x] ∧ ledL 4 low [x, y] = [low - x, y] ∧ ledL 5 low [x, y] = [low - y, low - x] ∧ ledL 6 low [x, y] = [low - (low - x), low - y] ∧ ledL 7 low [x, y] = [low - (low - y), low - (low - x)] := ⟨rfl, rfl, rfl, rfl, rfl, rfl, rfl, rfl⟩
theorem led_comp {s a b low : Int} {l : List Int} (hs : s = 1 ∨ s = 2) (hl : (l.length : Int) = s) (a0 : 0 ≤ a) (a1 : a < manyM s) (b0 : 0 ≤ b) (b1 : b < manyM s) : ledL (mjI s a b) low l = ledL b low (ledL a low l) := by
  rcases hs with rfl | rfl
  · simp [manyM] at a1 b1
    obtain ⟨x, rfl⟩ : ∃ x, l = [x] := by
      match l, hl with
      | [x], _ => exact ⟨x, rfl⟩
      | [], h => simp at h
      | _ :: _ :: _, h => simp at h; omega
    have ha : a = 0 ∨ a = 1 := by omega
    have hb : b = 0 ∨ b = 1 := by omega
    rcases ha with rfl | rfl <;> rcases hb with rfl | rfl <;> simp [ledL, mjI] <;> omega
  · simp [manyM] at a1 b1
    obtain ⟨x, y, rfl⟩ : ∃ x y, l = [x, y] := by
      match l, hl with
      | [x, y], _ => exact ⟨x, y, rfl⟩
      | [], h => simp at h
      | [_], h => simp at h
      | _ :: _ :: _ :: _, h => simp at h; omega
    have e : ∀ p q : Int, ∀ c d : Int, p = c → q = d → ([p, q] : List Int) = [c, d] := fun _ _ _ _ h1 h2 => by rw [h1, h2]
    rcases cases8 a0 a1 with rfl | rfl | rfl | rfl | rfl | rfl | rfl | rfl <;> rcases cases8 b0 b1 with rfl | rfl | rfl | rfl | rfl | rfl | rfl | rfl <;>
      (simp [mjI, (led_v _ _ _).1, (led_v _ _ _).2.1, (led_v _ _ _).2.2.1, (led_v _ _ _).2.2.2.1, (led_v _ _ _).2.2.2.2.1, (led_v _ _ _).2.2.2.2.2.1, (led_v _ _ _).2.2.2.2.2.2.1, (led_v _ _ _).2.2.2.2.2.2.2] <;> omega)
theorem led_zero {s low : Int} {l : List Int} (hs : s = 1 ∨ s = 2) (hl : (l.length : Int) = s) : ledL 0 low l = l := by
  match l, hl with
  | [x], _ => rfl
  | [x, y], _ => rfl
  | [], h => simp at h; omega
  | _ :: _ :: _ :: _, h => simp at h; omega
theorem led_in {m low : Int} {l : List Int} (hl : l.length = 1 ∨ l.length = 2) (m0 : 0 ≤ m) (m8 : m < 8) (h : ∀ x ∈ l, 0 ≤ x ∧ x ≤ low) : ∀ x ∈ ledL m low l, 0 ≤ x ∧ x ≤ low := by
  match l, hl with
  | [x], _ =>
    have hx := h x (by simp)
    intro z hz
    rw [show ledL m low [x] = if m = 0 then [x] else [low - x] from rfl] at hz
    split at hz
    · simp at hz; subst hz; exact hx
    · simp at hz; subst hz; omega
  | [x, y], _ =>
    have hx := h x (by simp)
    have hy := h y (by simp)
    obtain ⟨v0, v1, v2, v3, v4, v5, v6, v7⟩ := led_v low x y
    intro z hz
    rcases cases8 m0 m8 with rfl | rfl | rfl | rfl | rfl | rfl | rfl | rfl <;> (first | rw [v0] at hz | rw [v1] at hz | rw [v2] at hz | rw [v3] at hz | rw [v4] at hz | rw [v5] at hz | rw [v6] at hz | rw [v7] at hz) <;> (simp at hz; omega)
def redP (low t : Int) : Int × Int := (t / Int.gcd t low, low / Int.gcd t low)
theorem lessP_red {low t : Int} : lessP (redP low t) = redP low (low - t) := by
  unfold lessP redP
  rw [Int.gcd_self_sub_left]
  have e : (low - t) / ((Int.gcd t low : Nat) : Int) = low / ((Int.gcd t low : Nat) : Int) - t / ((Int.gcd t low : Nat) : Int) := Int.sub_ediv_of_dvd _ (Int.gcd_dvd_left ..)
  rw [e]
theorem rotF_red (low : Int) : ∀ (k : Nat) (p : Int × Int), rotF k (redP low p.1, redP low p.2) = (redP low (rotI low k p).1, redP low (rotI low k p).2)
  | 0, _ => rfl
  | k + 1, p => by
    show rotF k (lessP (redP low p.2), redP low p.1) = _
    rw [lessP_red]
    exact rotF_red low k (low - p.2, p.1)
theorem ledF_red {m low : Int} {l : List Int} (hl : l.length = 1 ∨ l.length = 2) : ledF m (l.map (redP low)) = (ledL m low l).map (redP low) := by
  match l, hl with
  | [x], _ =>
    show (if m = 0 then [redP low x] else [lessP (redP low x)]) = (if m = 0 then [x] else [low - x]).map (redP low)
    split
    · rfl
    · rw [lessP_red]; rfl
  | [x, y], _ =>
    show [(ledFP m (redP low x, redP low y)).1, (ledFP m (redP low x, redP low y)).2] = [redP low (ledP m low (x, y)).1, redP low (ledP m low (x, y)).2]
    have e : ledFP m (redP low x, redP low y) = (redP low (ledP m low (x, y)).1, redP low (ledP m low (x, y)).2) := by
      unfold ledFP ledP
      split
      · show rotF _ (lessP (redP low x), redP low y) = _
        rw [lessP_red]
        exact rotF_red low _ (low - x, y)
      · exact rotF_red low _ (x, y)
    rw [e]
theorem red_fr {low t : Int} (h1 : 1 ≤ low) (t0 : 0 ≤ t) (t1 : t ≤ low) : Fr01 (redP low t) := by
  obtain ⟨g1, g2⟩ := gcd_bd (a := t) h1
  obtain ⟨a, ha⟩ := Int.gcd_dvd_left (a := t) (b := low)
  obtain ⟨b, hb⟩ := Int.gcd_dvd_right (a := t) (b := low)
  refine ⟨Int.ediv_nonneg t0 (by omega), Int.ediv_le_ediv (by omega) t1, ?_, red_gcd h1⟩
  show 1 ≤ low / _
  have := Int.le_ediv_of_mul_le (c := (Int.gcd t low : Int)) (a := 1) (b := low) (by omega) (by omega)
  exact this
theorem rp_red {low : Int} (h1 : 1 ≤ low) (h2 : low < 10 ^ 13) {l : List Int} (hl : l.length ≤ 2) (h : ∀ x ∈ l, 0 ≤ x ∧ x ≤ low) : Rp 2 1000 (.tup ((l.map (redP low)).map frD)) := by
  refine Rp.le (k := 2) (m := ((l.map (redP low)).map frD).length * (35 + 2) + 3) (Rp.tup (k := 1) (m := 35) fun d hd => ?_) (Nat.le_refl _) (by simp; omega)
  obtain ⟨p, hp, rfl⟩ := List.mem_map.mp hd
  obtain ⟨t, ht, rfl⟩ := List.mem_map.mp hp
  obtain ⟨t0, t1⟩ := h t ht
  obtain ⟨g1, g2⟩ := gcd_bd (a := t) h1
  have a0 : 0 ≤ t / ((Int.gcd t low : Nat) : Int) := Int.ediv_nonneg t0 (by omega)
  have a1 : t / ((Int.gcd t low : Nat) : Int) ≤ t := Int.ediv_le_self _ t0
  have b0 : 0 ≤ low / ((Int.gcd t low : Nat) : Int) := Int.ediv_nonneg (by omega) (by omega)
  have b1 : low / ((Int.gcd t low : Nat) : Int) ≤ low := Int.ediv_le_self _ (by omega)
  have lg : ∀ z : Int, 0 ≤ z → z < 10 ^ 13 → z.natAbs.log2 < 1920 := fun z z0 z1 => by
    have := log2_bd (n := z.natAbs) (k := 44) (by omega) (by decide)
    omega
  have := Rp.tup (k := 0) (m := 14) (ds := [.int (redP low t).1, .int (redP low t).2]) (fun e he => by
    simp at he
    rcases he with rfl | rfl
    · exact Rp.int (j := 13) (i := t / ((Int.gcd t low : Nat) : Int)) (by decide) (by omega) (lg _ a0 (by omega))
    · exact Rp.int (j := 13) (i := low / ((Int.gcd t low : Nat) : Int)) (by decide) (by omega) (lg _ b0 (by omega)))
  exact this
theorem rp_cell {l : List Int} (hl : l.length ≤ 2) {size : Int} (h2 : size ≤ 10 ^ 20) (h : ∀ x ∈ l, 0 ≤ x ∧ x < size) : Rp 1 100 (tupI l) := by
  refine (Rp.ints (k := 0) (j := 21) (l := l) (by decide) fun x hx => ?_).le (Nat.le_refl _) (by omega)
  obtain ⟨x0, x1⟩ := h x hx
  refine ⟨by omega, ?_⟩
  have := log2_bd (n := x.natAbs) (k := 67) (by omega) (by decide)
  omega
theorem sat_law_is_led_right : ∀ ds n R RX, S_law_is_led_right ds n R RX → fnM 2 14 m_law_is_led_right ds n R fun _ _ _ => False := by
  intro ds n R RX h
  unfold S_law_is_led_right at h
  split at h
  · rename_i s
    obtain ⟨hs, hn, hR⟩ := h
    refine ⟨rfl, ?_⟩
    have hs0 : 1 ≤ s := by omega
    have hs2 : s ≤ 2 := by omega
    have hmm : manyM s ≤ 8 := manyM_le hs
    have hm1 : 1 ≤ manyM s := by rcases hs with rfl | rfl <;> decide
    have start : ∀ (Q : List S → Nat → Prop) (ρ : List S), Q (ρ.set 2 (.dat (.int (manyM s)))) n → (s = 2 → Q (ρ.set 2 (.dat (.int 8))) n) ∧ (¬ s = 2 → Q (ρ.set 2 (.dat (.int 2))) n) := fun Q ρ h => by
      rcases hs with rfl | rfl
      · exact ⟨fun z => absurd z (by decide), fun _ => h⟩
      · exact ⟨fun _ => h, fun z => absurd rfl z⟩
    show (sSeq (sAsg 2 (mIfE (mBin (gEq false) (mVar 1) (mC (.int 2))) (mC (.int 8)) (mC (.int 2)))) _) _ _ _
    refine seq_cut (fun ρ n' => ρ = [.dat .pot, .dat (.int s), .dat (.int (manyM s)), .un, .un, .un, .un, .un, .un, .un, .un, .un, .un, .un] ∧ n' = n) (fun K hK => ?_) ?_
    · simp only [startD, List.map_cons, List.map_nil, List.length_cons, List.length_nil, Nat.reduceAdd, Nat.reduceSub, List.replicate_succ, List.replicate_zero, List.cons_append, List.nil_append]; simp -implicitDefEqProofs -dsimp [-List.map_map, ↓lkK_0, ↓lkK_s, ↓stK_0, ↓stK_s, ↓x_var, ↓x_asg, ↓x_gtN, ↓stSK_c, ↓stSK_n, ↓x_par, ↓wpK_n, ↓wpK_c, ↓x_lcz, ↓x_lc2z, ↓x_lc2T, ↓x_app, ↓x_ext, ↓x_setI, ↓x_idxV, ↓x_lenV, ↓x_dget, ↓x_din, ↓x_dput, ↓atK_0, ↓atK_1, ↓atK_2, ↓atK_3, ↓atK_m1, ↓atK_m2, ↓atK_m3, ↓atK_m4, ↓x_idxl, ↓x_idxt, ↓x_idxs, ↓x_ret, ↓x_retN, ↓x_seq, ↓x_sif, ↓x_snil, ↓x_exp, ↓x_nev, ↓x_brk, ↓x_cnt, ↓x_sfor, ↓x_moNil, ↓x_moCons, ↓x_asgT, ↓x_gtT, ↓x_gtCons, ↓x_gtNil, ↓x_retV, ↓x_mov, ↓x_c, ↓x_bin, ↓x_un, ↓x_and, ↓x_or, ↓x_not, ↓x_ifE, ↓x_chain, ↓x_cb, ↓x_anil, ↓x_cons, ↓x_star, ↓x_tup, ↓x_lst, ↓x_dic0, ↓x_call, ↓x_callK, ↓x_yes, ↓x_toD, ↓x_toDo, ↓x_toB, ↓x_wT, ↓x_wF, ↓x_wD, ↓x_wN, ↓x_sub, ↓x_mul, ↓x_fdv, ↓x_mod, ↓x_pow, ↓x_lt, ↓x_le, ↓x_gt, ↓x_ge, ↓x_addi, ↓x_adds, ↓x_addt, ↓x_addl, ↓x_eqi, ↓x_nei, ↓x_eqs, ↓x_nes, ↓x_int, ↓x_nit, ↓x_inl, ↓x_nil, ↓x_isN, ↓x_notN, ↓x_neg, ↓x_lens, ↓x_lent, ↓x_lenl, ↓x_abs, ↓x_inti, ↓x_intb, ↓x_max, ↓x_min, ↓x_tofl, ↓x_toft, ↓x_lofl, ↓x_loft, ↓x_iseq, ↓x_sqt, ↓x_sql, ↓x_turn, ↓x_lstR1, ↓x_rg1, ↓x_rg2, ↓x_rgK, ↓x_rgK1, ↓x_rgK2, ↓x_isi_non_int, ↓x_isi_non_bool, ↓x_isi_non_str, ↓x_isi_non_tuple, ↓x_isi_non_list, ↓x_isi_bl_int, ↓x_isi_bl_bool, ↓x_isi_bl_str, ↓x_isi_bl_tuple, ↓x_isi_bl_list, ↓x_isi_int_int, ↓x_isi_int_bool, ↓x_isi_int_str, ↓x_isi_int_tuple, ↓x_isi_int_list, ↓x_isi_str_int, ↓x_isi_str_bool, ↓x_isi_str_str, ↓x_isi_str_tuple, ↓x_isi_str_list, ↓x_isi_tup_int, ↓x_isi_tup_bool, ↓x_isi_tup_str, ↓x_isi_tup_tuple, ↓x_isi_tup_list, ↓x_isi_lst_int, ↓x_isi_lst_bool, ↓x_isi_lst_str, ↓x_isi_lst_tuple, ↓x_isi_lst_list, ↓x_all, ↓x_any, ↓x_sum, ↓x_bln, ↓x_blc, ↓x_itn, ↓x_itc, x_wG, tyD, ↓x_pot0, ↓x_pot1, ↓x_pot2, ↓x_pset0, ↓x_pset2, ↓x_vK, ↓x_cutnn, ↓x_cutns, ↓x_cutsn, ↓x_cutl, ↓x_cutt, ↓x_kyi, ↓x_kys, ↓x_ops, ↓x_kin, ↓x_kidx, ↓x_bm, ↓x_kindl, ↓x_kinds, ↓x_eqb, ↓x_neb, KD_MOST_MOTION, K_QUARTERS, ↓x_bx]
      rcases hs with rfl | rfl
      · exact ⟨fun z => absurd z (by decide), fun _ => hK _ _ ⟨rfl, rfl⟩⟩
      · exact ⟨fun _ => hK _ _ ⟨rfl, rfl⟩, fun z => absurd rfl z⟩
    rintro _ _ ⟨rfl, rfl⟩
    simp -implicitDefEqProofs -dsimp [-List.map_map, ↓S_law_take, ↓S_law_of, ↓lkK_0, ↓lkK_s, ↓stK_0, ↓stK_s, ↓x_var, ↓x_asg, ↓x_gtN, ↓stSK_c, ↓stSK_n, ↓x_par, ↓wpK_n, ↓wpK_c, ↓x_lcz, ↓x_lc2z, ↓x_lc2T, ↓x_app, ↓x_ext, ↓x_setI, ↓x_idxV, ↓x_lenV, ↓x_dget, ↓x_din, ↓x_dput, ↓atK_0, ↓atK_1, ↓atK_2, ↓atK_3, ↓atK_m1, ↓atK_m2, ↓atK_m3, ↓atK_m4, ↓x_idxl, ↓x_idxt, ↓x_idxs, ↓x_ret, ↓x_retN, ↓x_seq, ↓x_sif, ↓x_snil, ↓x_exp, ↓x_nev, ↓x_brk, ↓x_cnt, ↓x_sfor, ↓x_moNil, ↓x_moCons, ↓x_asgT, ↓x_gtT, ↓x_gtCons, ↓x_gtNil, ↓x_retV, ↓x_mov, ↓x_c, ↓x_bin, ↓x_un, ↓x_and, ↓x_or, ↓x_not, ↓x_ifE, ↓x_chain, ↓x_cb, ↓x_anil, ↓x_cons, ↓x_star, ↓x_tup, ↓x_lst, ↓x_dic0, ↓x_call, ↓x_callK, ↓x_yes, ↓x_toD, ↓x_toDo, ↓x_toB, ↓x_wT, ↓x_wF, ↓x_wD, ↓x_wN, ↓x_sub, ↓x_mul, ↓x_fdv, ↓x_mod, ↓x_pow, ↓x_lt, ↓x_le, ↓x_gt, ↓x_ge, ↓x_addi, ↓x_adds, ↓x_addt, ↓x_addl, ↓x_eqi, ↓x_nei, ↓x_eqs, ↓x_nes, ↓x_int, ↓x_nit, ↓x_inl, ↓x_nil, ↓x_isN, ↓x_notN, ↓x_neg, ↓x_lens, ↓x_lent, ↓x_lenl, ↓x_abs, ↓x_inti, ↓x_intb, ↓x_max, ↓x_min, ↓x_tofl, ↓x_toft, ↓x_lofl, ↓x_loft, ↓x_iseq, ↓x_sqt, ↓x_sql, ↓x_turn, ↓x_lstR1, ↓x_rg1, ↓x_rg2, ↓x_rgK, ↓x_rgK1, ↓x_rgK2, ↓x_isi_non_int, ↓x_isi_non_bool, ↓x_isi_non_str, ↓x_isi_non_tuple, ↓x_isi_non_list, ↓x_isi_bl_int, ↓x_isi_bl_bool, ↓x_isi_bl_str, ↓x_isi_bl_tuple, ↓x_isi_bl_list, ↓x_isi_int_int, ↓x_isi_int_bool, ↓x_isi_int_str, ↓x_isi_int_tuple, ↓x_isi_int_list, ↓x_isi_str_int, ↓x_isi_str_bool, ↓x_isi_str_str, ↓x_isi_str_tuple, ↓x_isi_str_list, ↓x_isi_tup_int, ↓x_isi_tup_bool, ↓x_isi_tup_str, ↓x_isi_tup_tuple, ↓x_isi_tup_list, ↓x_isi_lst_int, ↓x_isi_lst_bool, ↓x_isi_lst_str, ↓x_isi_lst_tuple, ↓x_isi_lst_list, ↓x_all, ↓x_any, ↓x_sum, ↓x_bln, ↓x_blc, ↓x_itn, ↓x_itc, x_wG, tyD, ↓x_pot0, ↓x_pot1, ↓x_pot2, ↓x_pset0, ↓x_pset2, ↓x_vK, ↓x_cutnn, ↓x_cutns, ↓x_cutsn, ↓x_cutl, ↓x_cutt, ↓x_kyi, ↓x_kys, ↓x_ops, ↓x_kin, ↓x_kidx, ↓x_bm, ↓x_kindl, ↓x_kinds, ↓x_eqb, ↓x_neb, KD_MOST_MOTION, K_QUARTERS, ↓x_bx]
    refine ⟨hm1, by omega, by omega, fun one n1 o0 o1 c1 d1 => ⟨hm1, by omega, by omega, fun other n2 p0 p1 c2 d2 => ?_⟩⟩
    refine ⟨by decide, by omega, fun dl n3 hdl c3 d3 => ?_⟩
    obtain ⟨low, rfl, l1, l2⟩ : ∃ low, dl = .int low ∧ 1 ≤ low ∧ low < 10 ^ 13 := by
      rcases hdl with rfl | rfl | rfl | rfl | rfl | rfl | rfl <;> exact ⟨_, rfl, by decide, by decide⟩
    clear hdl
    refine ⟨by omega, by omega, ?_⟩
    refine lcL_ind (fun es acc m => ∃ ts : List Int, acc = ts.map D.int ∧ (∀ t ∈ ts, 0 ≤ t ∧ t ≤ low) ∧ (ts.length : Int) + es.length = s ∧ n3 ≤ m ∧ m + es.length ≤ n3 + s.toNat) ?_ ?_ _ _ _ ⟨[], rfl, by simp, by simp [rngD]; omega, by omega, by simp [rngD]⟩
    rotate_left
    · rintro e es acc m K hK ⟨ts, rfl, ht, hl, e1, e2⟩
      rw [List.length_cons] at hl e2
      simp -implicitDefEqProofs -dsimp [-List.map_map, ↓S_law_take, ↓lkK_0, ↓lkK_s, ↓stK_0, ↓stK_s, ↓x_var, ↓x_asg, ↓x_gtN, ↓stSK_c, ↓stSK_n, ↓x_par, ↓wpK_n, ↓wpK_c, ↓x_lcz, ↓x_lc2z, ↓x_lc2T, ↓x_app, ↓x_ext, ↓x_setI, ↓x_idxV, ↓x_lenV, ↓x_dget, ↓x_din, ↓x_dput, ↓atK_0, ↓atK_1, ↓atK_2, ↓atK_3, ↓atK_m1, ↓atK_m2, ↓atK_m3, ↓atK_m4, ↓x_idxl, ↓x_idxt, ↓x_idxs, ↓x_ret, ↓x_retN, ↓x_seq, ↓x_sif, ↓x_snil, ↓x_exp, ↓x_nev, ↓x_brk, ↓x_cnt, ↓x_sfor, ↓x_moNil, ↓x_moCons, ↓x_asgT, ↓x_gtT, ↓x_gtCons, ↓x_gtNil, ↓x_retV, ↓x_mov, ↓x_c, ↓x_bin, ↓x_un, ↓x_and, ↓x_or, ↓x_not, ↓x_ifE, ↓x_chain, ↓x_cb, ↓x_anil, ↓x_cons, ↓x_star, ↓x_tup, ↓x_lst, ↓x_dic0, ↓x_call, ↓x_callK, ↓x_yes, ↓x_toD, ↓x_toDo, ↓x_toB, ↓x_wT, ↓x_wF, ↓x_wD, ↓x_wN, ↓x_sub, ↓x_mul, ↓x_fdv, ↓x_mod, ↓x_pow, ↓x_lt, ↓x_le, ↓x_gt, ↓x_ge, ↓x_addi, ↓x_adds, ↓x_addt, ↓x_addl, ↓x_eqi, ↓x_nei, ↓x_eqs, ↓x_nes, ↓x_int, ↓x_nit, ↓x_inl, ↓x_nil, ↓x_isN, ↓x_notN, ↓x_neg, ↓x_lens, ↓x_lent, ↓x_lenl, ↓x_abs, ↓x_inti, ↓x_intb, ↓x_max, ↓x_min, ↓x_tofl, ↓x_toft, ↓x_lofl, ↓x_loft, ↓x_iseq, ↓x_sqt, ↓x_sql, ↓x_turn, ↓x_lstR1, ↓x_rg1, ↓x_rg2, ↓x_rgK, ↓x_rgK1, ↓x_rgK2, ↓x_isi_non_int, ↓x_isi_non_bool, ↓x_isi_non_str, ↓x_isi_non_tuple, ↓x_isi_non_list, ↓x_isi_bl_int, ↓x_isi_bl_bool, ↓x_isi_bl_str, ↓x_isi_bl_tuple, ↓x_isi_bl_list, ↓x_isi_int_int, ↓x_isi_int_bool, ↓x_isi_int_str, ↓x_isi_int_tuple, ↓x_isi_int_list, ↓x_isi_str_int, ↓x_isi_str_bool, ↓x_isi_str_str, ↓x_isi_str_tuple, ↓x_isi_str_list, ↓x_isi_tup_int, ↓x_isi_tup_bool, ↓x_isi_tup_str, ↓x_isi_tup_tuple, ↓x_isi_tup_list, ↓x_isi_lst_int, ↓x_isi_lst_bool, ↓x_isi_lst_str, ↓x_isi_lst_tuple, ↓x_isi_lst_list, ↓x_all, ↓x_any, ↓x_sum, ↓x_bln, ↓x_blc, ↓x_itn, ↓x_itc, x_wG, tyD, ↓x_pot0, ↓x_pot1, ↓x_pot2, ↓x_pset0, ↓x_pset2, ↓x_vK, ↓x_cutnn, ↓x_cutns, ↓x_cutsn, ↓x_cutl, ↓x_cutt, ↓x_kyi, ↓x_kys, ↓x_ops, ↓x_kin, ↓x_kidx, ↓x_bm, ↓x_kindl, ↓x_kinds, ↓x_eqb, ↓x_neb, KD_MOST_MOTION, K_QUARTERS, ↓x_bx]
      refine ⟨by omega, by omega, by omega, fun t m2 t0 t1 f1 f2 => ⟨by simp at hl ⊢; omega, hK _ _ ⟨ts ++ [t], by simp, ?_, by simp; omega, by omega, by omega⟩⟩⟩
      intro z hz
      rcases List.mem_append.mp hz with hz | hz
      · exact ht z hz
      · simp at hz; subst hz; exact ⟨t0, by omega⟩
    rintro _ n4 ⟨tops, rfl, ht, hl, c4, d4⟩
    have hl' : (tops.length : Int) = s := by simpa using hl
    have hl12 : tops.length = 1 ∨ tops.length = 2 := by omega
    have t64 : ∀ t ∈ tops, 0 ≤ t ∧ t < 2 ^ 64 := fun t h => by have := ht t h; omega
    have o8 : one < 8 := by omega
    have p8 : other < 8 := by omega
    have hfar := led_in hl12 o0 o8 ht
    have hlf : (ledL one low tops).length = tops.length := ledL_length ..
    have h2far := led_in (m := other) (low := low) (l := ledL one low tops) (by rw [hlf]; exact hl12) p0 p8 hfar
    have f64 : ∀ t ∈ ledL one low tops, 0 ≤ t ∧ t < 2 ^ 64 := fun t h => by have := hfar t h; omega
    have g64 : ∀ t ∈ ledL other low (ledL one low tops), 0 ≤ t ∧ t < 2 ^ 64 := fun t h => by have := h2far t h; omega
    have okd : ∀ m, 0 ≤ m → m < manyM s → ((tops.length = 1 ∧ (m = 0 ∨ m = 1)) ∨ tops.length = 2) := fun m a b => ledL_ok hs hl' a b
    have frs : ∀ l : List Int, (∀ t ∈ l, 0 ≤ t ∧ t ≤ low) → ∀ p ∈ l.map (redP low), Fr01 p := fun l h p hp => by
      obtain ⟨t, h1, rfl⟩ := List.mem_map.mp hp
      exact red_fr l1 (h t h1).1 (h t h1).2
    have form : ∀ l : List Int, (D.tup (l.map fun t => .tup [.int (t / Int.gcd t low), .int (low / Int.gcd t low)])) = .tup ((l.map (redP low)).map frD) := fun l => by rw [List.map_map]; rfl
    simp -implicitDefEqProofs -dsimp [-List.map_map, ↓lkK_0, ↓lkK_s, ↓stK_0, ↓stK_s, ↓x_var, ↓x_asg, ↓x_gtN, ↓stSK_c, ↓stSK_n, ↓x_par, ↓wpK_n, ↓wpK_c, ↓x_lcz, ↓x_lc2z, ↓x_lc2T, ↓x_app, ↓x_ext, ↓x_setI, ↓x_idxV, ↓x_lenV, ↓x_dget, ↓x_din, ↓x_dput, ↓atK_0, ↓atK_1, ↓atK_2, ↓atK_3, ↓atK_m1, ↓atK_m2, ↓atK_m3, ↓atK_m4, ↓x_idxl, ↓x_idxt, ↓x_idxs, ↓x_ret, ↓x_retN, ↓x_seq, ↓x_sif, ↓x_snil, ↓x_exp, ↓x_nev, ↓x_brk, ↓x_cnt, ↓x_sfor, ↓x_moNil, ↓x_moCons, ↓x_asgT, ↓x_gtT, ↓x_gtCons, ↓x_gtNil, ↓x_retV, ↓x_mov, ↓x_c, ↓x_bin, ↓x_un, ↓x_and, ↓x_or, ↓x_not, ↓x_ifE, ↓x_chain, ↓x_cb, ↓x_anil, ↓x_cons, ↓x_star, ↓x_tup, ↓x_lst, ↓x_dic0, ↓x_call, ↓x_callK, ↓x_yes, ↓x_toD, ↓x_toDo, ↓x_toB, ↓x_wT, ↓x_wF, ↓x_wD, ↓x_wN, ↓x_sub, ↓x_mul, ↓x_fdv, ↓x_mod, ↓x_pow, ↓x_lt, ↓x_le, ↓x_gt, ↓x_ge, ↓x_addi, ↓x_adds, ↓x_addt, ↓x_addl, ↓x_eqi, ↓x_nei, ↓x_eqs, ↓x_nes, ↓x_int, ↓x_nit, ↓x_inl, ↓x_nil, ↓x_isN, ↓x_notN, ↓x_neg, ↓x_lens, ↓x_lent, ↓x_lenl, ↓x_abs, ↓x_inti, ↓x_intb, ↓x_max, ↓x_min, ↓x_tofl, ↓x_toft, ↓x_lofl, ↓x_loft, ↓x_iseq, ↓x_sqt, ↓x_sql, ↓x_turn, ↓x_lstR1, ↓x_rg1, ↓x_rg2, ↓x_rgK, ↓x_rgK1, ↓x_rgK2, ↓x_isi_non_int, ↓x_isi_non_bool, ↓x_isi_non_str, ↓x_isi_non_tuple, ↓x_isi_non_list, ↓x_isi_bl_int, ↓x_isi_bl_bool, ↓x_isi_bl_str, ↓x_isi_bl_tuple, ↓x_isi_bl_list, ↓x_isi_int_int, ↓x_isi_int_bool, ↓x_isi_int_str, ↓x_isi_int_tuple, ↓x_isi_int_list, ↓x_isi_str_int, ↓x_isi_str_bool, ↓x_isi_str_str, ↓x_isi_str_tuple, ↓x_isi_str_list, ↓x_isi_tup_int, ↓x_isi_tup_bool, ↓x_isi_tup_str, ↓x_isi_tup_tuple, ↓x_isi_tup_list, ↓x_isi_lst_int, ↓x_isi_lst_bool, ↓x_isi_lst_str, ↓x_isi_lst_tuple, ↓x_isi_lst_list, ↓x_all, ↓x_any, ↓x_sum, ↓x_bln, ↓x_blc, ↓x_itn, ↓x_itc, x_wG, tyD, ↓x_pot0, ↓x_pot1, ↓x_pot2, ↓x_pset0, ↓x_pset2, ↓x_vK, ↓x_cutnn, ↓x_cutns, ↓x_cutsn, ↓x_cutl, ↓x_cutt, ↓x_kyi, ↓x_kys, ↓x_ops, ↓x_kin, ↓x_kidx, ↓x_bm, ↓x_kindl, ↓x_kinds, ↓x_eqb, ↓x_neb, KD_MOST_MOTION, K_QUARTERS, ↓x_bx]
    refine ⟨low, tops, rfl, l1, by omega, by omega, t64, ?_⟩
    rw [form]
    simp -implicitDefEqProofs -dsimp [-List.map_map, ↓lkK_0, ↓lkK_s, ↓stK_0, ↓stK_s, ↓x_var, ↓x_asg, ↓x_gtN, ↓stSK_c, ↓stSK_n, ↓x_par, ↓wpK_n, ↓wpK_c, ↓x_lcz, ↓x_lc2z, ↓x_lc2T, ↓x_app, ↓x_ext, ↓x_setI, ↓x_idxV, ↓x_lenV, ↓x_dget, ↓x_din, ↓x_dput, ↓atK_0, ↓atK_1, ↓atK_2, ↓atK_3, ↓atK_m1, ↓atK_m2, ↓atK_m3, ↓atK_m4, ↓x_idxl, ↓x_idxt, ↓x_idxs, ↓x_ret, ↓x_retN, ↓x_seq, ↓x_sif, ↓x_snil, ↓x_exp, ↓x_nev, ↓x_brk, ↓x_cnt, ↓x_sfor, ↓x_moNil, ↓x_moCons, ↓x_asgT, ↓x_gtT, ↓x_gtCons, ↓x_gtNil, ↓x_retV, ↓x_mov, ↓x_c, ↓x_bin, ↓x_un, ↓x_and, ↓x_or, ↓x_not, ↓x_ifE, ↓x_chain, ↓x_cb, ↓x_anil, ↓x_cons, ↓x_star, ↓x_tup, ↓x_lst, ↓x_dic0, ↓x_call, ↓x_callK, ↓x_yes, ↓x_toD, ↓x_toDo, ↓x_toB, ↓x_wT, ↓x_wF, ↓x_wD, ↓x_wN, ↓x_sub, ↓x_mul, ↓x_fdv, ↓x_mod, ↓x_pow, ↓x_lt, ↓x_le, ↓x_gt, ↓x_ge, ↓x_addi, ↓x_adds, ↓x_addt, ↓x_addl, ↓x_eqi, ↓x_nei, ↓x_eqs, ↓x_nes, ↓x_int, ↓x_nit, ↓x_inl, ↓x_nil, ↓x_isN, ↓x_notN, ↓x_neg, ↓x_lens, ↓x_lent, ↓x_lenl, ↓x_abs, ↓x_inti, ↓x_intb, ↓x_max, ↓x_min, ↓x_tofl, ↓x_toft, ↓x_lofl, ↓x_loft, ↓x_iseq, ↓x_sqt, ↓x_sql, ↓x_turn, ↓x_lstR1, ↓x_rg1, ↓x_rg2, ↓x_rgK, ↓x_rgK1, ↓x_rgK2, ↓x_isi_non_int, ↓x_isi_non_bool, ↓x_isi_non_str, ↓x_isi_non_tuple, ↓x_isi_non_list, ↓x_isi_bl_int, ↓x_isi_bl_bool, ↓x_isi_bl_str, ↓x_isi_bl_tuple, ↓x_isi_bl_list, ↓x_isi_int_int, ↓x_isi_int_bool, ↓x_isi_int_str, ↓x_isi_int_tuple, ↓x_isi_int_list, ↓x_isi_str_int, ↓x_isi_str_bool, ↓x_isi_str_str, ↓x_isi_str_tuple, ↓x_isi_str_list, ↓x_isi_tup_int, ↓x_isi_tup_bool, ↓x_isi_tup_str, ↓x_isi_tup_tuple, ↓x_isi_tup_list, ↓x_isi_lst_int, ↓x_isi_lst_bool, ↓x_isi_lst_str, ↓x_isi_lst_tuple, ↓x_isi_lst_list, ↓x_all, ↓x_any, ↓x_sum, ↓x_bln, ↓x_blc, ↓x_itn, ↓x_itc, x_wG, tyD, ↓x_pot0, ↓x_pot1, ↓x_pot2, ↓x_pset0, ↓x_pset2, ↓x_vK, ↓x_cutnn, ↓x_cutns, ↓x_cutsn, ↓x_cutl, ↓x_cutt, ↓x_kyi, ↓x_kys, ↓x_ops, ↓x_kin, ↓x_kidx, ↓x_bm, ↓x_kindl, ↓x_kinds, ↓x_eqb, ↓x_neb, KD_MOST_MOTION, K_QUARTERS, ↓x_bx]
    refine ⟨one, low, tops, rfl, okd one o0 o1, o0, o8, ?_⟩
    simp -implicitDefEqProofs -dsimp [-List.map_map, ↓lkK_0, ↓lkK_s, ↓stK_0, ↓stK_s, ↓x_var, ↓x_asg, ↓x_gtN, ↓stSK_c, ↓stSK_n, ↓x_par, ↓wpK_n, ↓wpK_c, ↓x_lcz, ↓x_lc2z, ↓x_lc2T, ↓x_app, ↓x_ext, ↓x_setI, ↓x_idxV, ↓x_lenV, ↓x_dget, ↓x_din, ↓x_dput, ↓atK_0, ↓atK_1, ↓atK_2, ↓atK_3, ↓atK_m1, ↓atK_m2, ↓atK_m3, ↓atK_m4, ↓x_idxl, ↓x_idxt, ↓x_idxs, ↓x_ret, ↓x_retN, ↓x_seq, ↓x_sif, ↓x_snil, ↓x_exp, ↓x_nev, ↓x_brk, ↓x_cnt, ↓x_sfor, ↓x_moNil, ↓x_moCons, ↓x_asgT, ↓x_gtT, ↓x_gtCons, ↓x_gtNil, ↓x_retV, ↓x_mov, ↓x_c, ↓x_bin, ↓x_un, ↓x_and, ↓x_or, ↓x_not, ↓x_ifE, ↓x_chain, ↓x_cb, ↓x_anil, ↓x_cons, ↓x_star, ↓x_tup, ↓x_lst, ↓x_dic0, ↓x_call, ↓x_callK, ↓x_yes, ↓x_toD, ↓x_toDo, ↓x_toB, ↓x_wT, ↓x_wF, ↓x_wD, ↓x_wN, ↓x_sub, ↓x_mul, ↓x_fdv, ↓x_mod, ↓x_pow, ↓x_lt, ↓x_le, ↓x_gt, ↓x_ge, ↓x_addi, ↓x_adds, ↓x_addt, ↓x_addl, ↓x_eqi, ↓x_nei, ↓x_eqs, ↓x_nes, ↓x_int, ↓x_nit, ↓x_inl, ↓x_nil, ↓x_isN, ↓x_notN, ↓x_neg, ↓x_lens, ↓x_lent, ↓x_lenl, ↓x_abs, ↓x_inti, ↓x_intb, ↓x_max, ↓x_min, ↓x_tofl, ↓x_toft, ↓x_lofl, ↓x_loft, ↓x_iseq, ↓x_sqt, ↓x_sql, ↓x_turn, ↓x_lstR1, ↓x_rg1, ↓x_rg2, ↓x_rgK, ↓x_rgK1, ↓x_rgK2, ↓x_isi_non_int, ↓x_isi_non_bool, ↓x_isi_non_str, ↓x_isi_non_tuple, ↓x_isi_non_list, ↓x_isi_bl_int, ↓x_isi_bl_bool, ↓x_isi_bl_str, ↓x_isi_bl_tuple, ↓x_isi_bl_list, ↓x_isi_int_int, ↓x_isi_int_bool, ↓x_isi_int_str, ↓x_isi_int_tuple, ↓x_isi_int_list, ↓x_isi_str_int, ↓x_isi_str_bool, ↓x_isi_str_str, ↓x_isi_str_tuple, ↓x_isi_str_list, ↓x_isi_tup_int, ↓x_isi_tup_bool, ↓x_isi_tup_str, ↓x_isi_tup_tuple, ↓x_isi_tup_list, ↓x_isi_lst_int, ↓x_isi_lst_bool, ↓x_isi_lst_str, ↓x_isi_lst_tuple, ↓x_isi_lst_list, ↓x_all, ↓x_any, ↓x_sum, ↓x_bln, ↓x_blc, ↓x_itn, ↓x_itc, x_wG, tyD, ↓x_pot0, ↓x_pot1, ↓x_pot2, ↓x_pset0, ↓x_pset2, ↓x_vK, ↓x_cutnn, ↓x_cutns, ↓x_cutsn, ↓x_cutl, ↓x_cutt, ↓x_kyi, ↓x_kys, ↓x_ops, ↓x_kin, ↓x_kidx, ↓x_bm, ↓x_kindl, ↓x_kinds, ↓x_eqb, ↓x_neb, KD_MOST_MOTION, K_QUARTERS, ↓x_bx]
    refine ⟨s, one, tops.map (redP low), rfl, hs, by rw [List.length_map]; exact hl', o0, mostM_of hs o1, frs _ ht, ?_⟩
    rw [ledF_red hl12]
    simp -implicitDefEqProofs only [↓x_toD]
    refine gRepr_of (rp_red l1 l2 (by omega) hfar) (by decide) (by decide) ?_
    simp -implicitDefEqProofs -dsimp [-List.map_map, ↓lkK_0, ↓lkK_s, ↓stK_0, ↓stK_s, ↓x_var, ↓x_asg, ↓x_gtN, ↓stSK_c, ↓stSK_n, ↓x_par, ↓wpK_n, ↓wpK_c, ↓x_lcz, ↓x_lc2z, ↓x_lc2T, ↓x_app, ↓x_ext, ↓x_setI, ↓x_idxV, ↓x_lenV, ↓x_dget, ↓x_din, ↓x_dput, ↓atK_0, ↓atK_1, ↓atK_2, ↓atK_3, ↓atK_m1, ↓atK_m2, ↓atK_m3, ↓atK_m4, ↓x_idxl, ↓x_idxt, ↓x_idxs, ↓x_ret, ↓x_retN, ↓x_seq, ↓x_sif, ↓x_snil, ↓x_exp, ↓x_nev, ↓x_brk, ↓x_cnt, ↓x_sfor, ↓x_moNil, ↓x_moCons, ↓x_asgT, ↓x_gtT, ↓x_gtCons, ↓x_gtNil, ↓x_retV, ↓x_mov, ↓x_c, ↓x_bin, ↓x_un, ↓x_and, ↓x_or, ↓x_not, ↓x_ifE, ↓x_chain, ↓x_cb, ↓x_anil, ↓x_cons, ↓x_star, ↓x_tup, ↓x_lst, ↓x_dic0, ↓x_call, ↓x_callK, ↓x_yes, ↓x_toD, ↓x_toDo, ↓x_toB, ↓x_wT, ↓x_wF, ↓x_wD, ↓x_wN, ↓x_sub, ↓x_mul, ↓x_fdv, ↓x_mod, ↓x_pow, ↓x_lt, ↓x_le, ↓x_gt, ↓x_ge, ↓x_addi, ↓x_adds, ↓x_addt, ↓x_addl, ↓x_eqi, ↓x_nei, ↓x_eqs, ↓x_nes, ↓x_int, ↓x_nit, ↓x_inl, ↓x_nil, ↓x_isN, ↓x_notN, ↓x_neg, ↓x_lens, ↓x_lent, ↓x_lenl, ↓x_abs, ↓x_inti, ↓x_intb, ↓x_max, ↓x_min, ↓x_tofl, ↓x_toft, ↓x_lofl, ↓x_loft, ↓x_iseq, ↓x_sqt, ↓x_sql, ↓x_turn, ↓x_lstR1, ↓x_rg1, ↓x_rg2, ↓x_rgK, ↓x_rgK1, ↓x_rgK2, ↓x_isi_non_int, ↓x_isi_non_bool, ↓x_isi_non_str, ↓x_isi_non_tuple, ↓x_isi_non_list, ↓x_isi_bl_int, ↓x_isi_bl_bool, ↓x_isi_bl_str, ↓x_isi_bl_tuple, ↓x_isi_bl_list, ↓x_isi_int_int, ↓x_isi_int_bool, ↓x_isi_int_str, ↓x_isi_int_tuple, ↓x_isi_int_list, ↓x_isi_str_int, ↓x_isi_str_bool, ↓x_isi_str_str, ↓x_isi_str_tuple, ↓x_isi_str_list, ↓x_isi_tup_int, ↓x_isi_tup_bool, ↓x_isi_tup_str, ↓x_isi_tup_tuple, ↓x_isi_tup_list, ↓x_isi_lst_int, ↓x_isi_lst_bool, ↓x_isi_lst_str, ↓x_isi_lst_tuple, ↓x_isi_lst_list, ↓x_all, ↓x_any, ↓x_sum, ↓x_bln, ↓x_blc, ↓x_itn, ↓x_itc, x_wG, tyD, ↓x_pot0, ↓x_pot1, ↓x_pot2, ↓x_pset0, ↓x_pset2, ↓x_vK, ↓x_cutnn, ↓x_cutns, ↓x_cutsn, ↓x_cutl, ↓x_cutt, ↓x_kyi, ↓x_kys, ↓x_ops, ↓x_kin, ↓x_kidx, ↓x_bm, ↓x_kindl, ↓x_kinds, ↓x_eqb, ↓x_neb, KD_MOST_MOTION, K_QUARTERS, ↓x_bx]
    refine ⟨low, _, rfl, l1, by omega, by omega, f64, ?_⟩
    rw [form]
    simp -implicitDefEqProofs only [↓x_toD]
    refine gRepr_of (rp_red l1 l2 (by omega) hfar) (by decide) (by decide) ?_
    simp -implicitDefEqProofs -dsimp [-List.map_map, ↓S_joint_motion, ↓lkK_0, ↓lkK_s, ↓stK_0, ↓stK_s, ↓x_var, ↓x_asg, ↓x_gtN, ↓stSK_c, ↓stSK_n, ↓x_par, ↓wpK_n, ↓wpK_c, ↓x_lcz, ↓x_lc2z, ↓x_lc2T, ↓x_app, ↓x_ext, ↓x_setI, ↓x_idxV, ↓x_lenV, ↓x_dget, ↓x_din, ↓x_dput, ↓atK_0, ↓atK_1, ↓atK_2, ↓atK_3, ↓atK_m1, ↓atK_m2, ↓atK_m3, ↓atK_m4, ↓x_idxl, ↓x_idxt, ↓x_idxs, ↓x_ret, ↓x_retN, ↓x_seq, ↓x_sif, ↓x_snil, ↓x_exp, ↓x_nev, ↓x_brk, ↓x_cnt, ↓x_sfor, ↓x_moNil, ↓x_moCons, ↓x_asgT, ↓x_gtT, ↓x_gtCons, ↓x_gtNil, ↓x_retV, ↓x_mov, ↓x_c, ↓x_bin, ↓x_un, ↓x_and, ↓x_or, ↓x_not, ↓x_ifE, ↓x_chain, ↓x_cb, ↓x_anil, ↓x_cons, ↓x_star, ↓x_tup, ↓x_lst, ↓x_dic0, ↓x_call, ↓x_callK, ↓x_yes, ↓x_toD, ↓x_toDo, ↓x_toB, ↓x_wT, ↓x_wF, ↓x_wD, ↓x_wN, ↓x_sub, ↓x_mul, ↓x_fdv, ↓x_mod, ↓x_pow, ↓x_lt, ↓x_le, ↓x_gt, ↓x_ge, ↓x_addi, ↓x_adds, ↓x_addt, ↓x_addl, ↓x_eqi, ↓x_nei, ↓x_eqs, ↓x_nes, ↓x_int, ↓x_nit, ↓x_inl, ↓x_nil, ↓x_isN, ↓x_notN, ↓x_neg, ↓x_lens, ↓x_lent, ↓x_lenl, ↓x_abs, ↓x_inti, ↓x_intb, ↓x_max, ↓x_min, ↓x_tofl, ↓x_toft, ↓x_lofl, ↓x_loft, ↓x_iseq, ↓x_sqt, ↓x_sql, ↓x_turn, ↓x_lstR1, ↓x_rg1, ↓x_rg2, ↓x_rgK, ↓x_rgK1, ↓x_rgK2, ↓x_isi_non_int, ↓x_isi_non_bool, ↓x_isi_non_str, ↓x_isi_non_tuple, ↓x_isi_non_list, ↓x_isi_bl_int, ↓x_isi_bl_bool, ↓x_isi_bl_str, ↓x_isi_bl_tuple, ↓x_isi_bl_list, ↓x_isi_int_int, ↓x_isi_int_bool, ↓x_isi_int_str, ↓x_isi_int_tuple, ↓x_isi_int_list, ↓x_isi_str_int, ↓x_isi_str_bool, ↓x_isi_str_str, ↓x_isi_str_tuple, ↓x_isi_str_list, ↓x_isi_tup_int, ↓x_isi_tup_bool, ↓x_isi_tup_str, ↓x_isi_tup_tuple, ↓x_isi_tup_list, ↓x_isi_lst_int, ↓x_isi_lst_bool, ↓x_isi_lst_str, ↓x_isi_lst_tuple, ↓x_isi_lst_list, ↓x_all, ↓x_any, ↓x_sum, ↓x_bln, ↓x_blc, ↓x_itn, ↓x_itc, x_wG, tyD, ↓x_pot0, ↓x_pot1, ↓x_pot2, ↓x_pset0, ↓x_pset2, ↓x_vK, ↓x_cutnn, ↓x_cutns, ↓x_cutsn, ↓x_cutl, ↓x_cutt, ↓x_kyi, ↓x_kys, ↓x_ops, ↓x_kin, ↓x_kidx, ↓x_bm, ↓x_kindl, ↓x_kinds, ↓x_eqb, ↓x_neb, KD_MOST_MOTION, K_QUARTERS, ↓x_bx]
    refine ⟨hs, o0, mostM_of hs o1, p0, mostM_of hs p1, ?_⟩
    have q1 : 0 ≤ mjI s one other := mjI_nn ..
    have q2 : mjI s one other < manyM s := by
      rcases hs with rfl | rfl
      · unfold mjI manyM; simp; omega
      · have := mjI_lt 2 one other; simpa [manyM] using this
    refine ⟨s, _, tops.map (redP low), rfl, hs, by rw [List.length_map]; exact hl', q1, mostM_of hs q2, frs _ ht, ?_⟩
    rw [ledF_red hl12, led_comp hs hl' o0 o1 p0 p1]
    simp -implicitDefEqProofs -dsimp [-List.map_map, ↓lkK_0, ↓lkK_s, ↓stK_0, ↓stK_s, ↓x_var, ↓x_asg, ↓x_gtN, ↓stSK_c, ↓stSK_n, ↓x_par, ↓wpK_n, ↓wpK_c, ↓x_lcz, ↓x_lc2z, ↓x_lc2T, ↓x_app, ↓x_ext, ↓x_setI, ↓x_idxV, ↓x_lenV, ↓x_dget, ↓x_din, ↓x_dput, ↓atK_0, ↓atK_1, ↓atK_2, ↓atK_3, ↓atK_m1, ↓atK_m2, ↓atK_m3, ↓atK_m4, ↓x_idxl, ↓x_idxt, ↓x_idxs, ↓x_ret, ↓x_retN, ↓x_seq, ↓x_sif, ↓x_snil, ↓x_exp, ↓x_nev, ↓x_brk, ↓x_cnt, ↓x_sfor, ↓x_moNil, ↓x_moCons, ↓x_asgT, ↓x_gtT, ↓x_gtCons, ↓x_gtNil, ↓x_retV, ↓x_mov, ↓x_c, ↓x_bin, ↓x_un, ↓x_and, ↓x_or, ↓x_not, ↓x_ifE, ↓x_chain, ↓x_cb, ↓x_anil, ↓x_cons, ↓x_star, ↓x_tup, ↓x_lst, ↓x_dic0, ↓x_call, ↓x_callK, ↓x_yes, ↓x_toD, ↓x_toDo, ↓x_toB, ↓x_wT, ↓x_wF, ↓x_wD, ↓x_wN, ↓x_sub, ↓x_mul, ↓x_fdv, ↓x_mod, ↓x_pow, ↓x_lt, ↓x_le, ↓x_gt, ↓x_ge, ↓x_addi, ↓x_adds, ↓x_addt, ↓x_addl, ↓x_eqi, ↓x_nei, ↓x_eqs, ↓x_nes, ↓x_int, ↓x_nit, ↓x_inl, ↓x_nil, ↓x_isN, ↓x_notN, ↓x_neg, ↓x_lens, ↓x_lent, ↓x_lenl, ↓x_abs, ↓x_inti, ↓x_intb, ↓x_max, ↓x_min, ↓x_tofl, ↓x_toft, ↓x_lofl, ↓x_loft, ↓x_iseq, ↓x_sqt, ↓x_sql, ↓x_turn, ↓x_lstR1, ↓x_rg1, ↓x_rg2, ↓x_rgK, ↓x_rgK1, ↓x_rgK2, ↓x_isi_non_int, ↓x_isi_non_bool, ↓x_isi_non_str, ↓x_isi_non_tuple, ↓x_isi_non_list, ↓x_isi_bl_int, ↓x_isi_bl_bool, ↓x_isi_bl_str, ↓x_isi_bl_tuple, ↓x_isi_bl_list, ↓x_isi_int_int, ↓x_isi_int_bool, ↓x_isi_int_str, ↓x_isi_int_tuple, ↓x_isi_int_list, ↓x_isi_str_int, ↓x_isi_str_bool, ↓x_isi_str_str, ↓x_isi_str_tuple, ↓x_isi_str_list, ↓x_isi_tup_int, ↓x_isi_tup_bool, ↓x_isi_tup_str, ↓x_isi_tup_tuple, ↓x_isi_tup_list, ↓x_isi_lst_int, ↓x_isi_lst_bool, ↓x_isi_lst_str, ↓x_isi_lst_tuple, ↓x_isi_lst_list, ↓x_all, ↓x_any, ↓x_sum, ↓x_bln, ↓x_blc, ↓x_itn, ↓x_itc, x_wG, tyD, ↓x_pot0, ↓x_pot1, ↓x_pot2, ↓x_pset0, ↓x_pset2, ↓x_vK, ↓x_cutnn, ↓x_cutns, ↓x_cutsn, ↓x_cutl, ↓x_cutt, ↓x_kyi, ↓x_kys, ↓x_ops, ↓x_kin, ↓x_kidx, ↓x_bm, ↓x_kindl, ↓x_kinds, ↓x_eqb, ↓x_neb, KD_MOST_MOTION, K_QUARTERS, ↓x_bx]
    refine gRepr_of (rp_red l1 l2 (by rw [ledL_length, ledL_length]; omega) h2far) (by decide) (by decide) ?_
    simp -implicitDefEqProofs -dsimp [-List.map_map, ↓lkK_0, ↓lkK_s, ↓stK_0, ↓stK_s, ↓x_var, ↓x_asg, ↓x_gtN, ↓stSK_c, ↓stSK_n, ↓x_par, ↓wpK_n, ↓wpK_c, ↓x_lcz, ↓x_lc2z, ↓x_lc2T, ↓x_app, ↓x_ext, ↓x_setI, ↓x_idxV, ↓x_lenV, ↓x_dget, ↓x_din, ↓x_dput, ↓atK_0, ↓atK_1, ↓atK_2, ↓atK_3, ↓atK_m1, ↓atK_m2, ↓atK_m3, ↓atK_m4, ↓x_idxl, ↓x_idxt, ↓x_idxs, ↓x_ret, ↓x_retN, ↓x_seq, ↓x_sif, ↓x_snil, ↓x_exp, ↓x_nev, ↓x_brk, ↓x_cnt, ↓x_sfor, ↓x_moNil, ↓x_moCons, ↓x_asgT, ↓x_gtT, ↓x_gtCons, ↓x_gtNil, ↓x_retV, ↓x_mov, ↓x_c, ↓x_bin, ↓x_un, ↓x_and, ↓x_or, ↓x_not, ↓x_ifE, ↓x_chain, ↓x_cb, ↓x_anil, ↓x_cons, ↓x_star, ↓x_tup, ↓x_lst, ↓x_dic0, ↓x_call, ↓x_callK, ↓x_yes, ↓x_toD, ↓x_toDo, ↓x_toB, ↓x_wT, ↓x_wF, ↓x_wD, ↓x_wN, ↓x_sub, ↓x_mul, ↓x_fdv, ↓x_mod, ↓x_pow, ↓x_lt, ↓x_le, ↓x_gt, ↓x_ge, ↓x_addi, ↓x_adds, ↓x_addt, ↓x_addl, ↓x_eqi, ↓x_nei, ↓x_eqs, ↓x_nes, ↓x_int, ↓x_nit, ↓x_inl, ↓x_nil, ↓x_isN, ↓x_notN, ↓x_neg, ↓x_lens, ↓x_lent, ↓x_lenl, ↓x_abs, ↓x_inti, ↓x_intb, ↓x_max, ↓x_min, ↓x_tofl, ↓x_toft, ↓x_lofl, ↓x_loft, ↓x_iseq, ↓x_sqt, ↓x_sql, ↓x_turn, ↓x_lstR1, ↓x_rg1, ↓x_rg2, ↓x_rgK, ↓x_rgK1, ↓x_rgK2, ↓x_isi_non_int, ↓x_isi_non_bool, ↓x_isi_non_str, ↓x_isi_non_tuple, ↓x_isi_non_list, ↓x_isi_bl_int, ↓x_isi_bl_bool, ↓x_isi_bl_str, ↓x_isi_bl_tuple, ↓x_isi_bl_list, ↓x_isi_int_int, ↓x_isi_int_bool, ↓x_isi_int_str, ↓x_isi_int_tuple, ↓x_isi_int_list, ↓x_isi_str_int, ↓x_isi_str_bool, ↓x_isi_str_str, ↓x_isi_str_tuple, ↓x_isi_str_list, ↓x_isi_tup_int, ↓x_isi_tup_bool, ↓x_isi_tup_str, ↓x_isi_tup_tuple, ↓x_isi_tup_list, ↓x_isi_lst_int, ↓x_isi_lst_bool, ↓x_isi_lst_str, ↓x_isi_lst_tuple, ↓x_isi_lst_list, ↓x_all, ↓x_any, ↓x_sum, ↓x_bln, ↓x_blc, ↓x_itn, ↓x_itc, x_wG, tyD, ↓x_pot0, ↓x_pot1, ↓x_pot2, ↓x_pset0, ↓x_pset2, ↓x_vK, ↓x_cutnn, ↓x_cutns, ↓x_cutsn, ↓x_cutl, ↓x_cutt, ↓x_kyi, ↓x_kys, ↓x_ops, ↓x_kin, ↓x_kidx, ↓x_bm, ↓x_kindl, ↓x_kinds, ↓x_eqb, ↓x_neb, KD_MOST_MOTION, K_QUARTERS, ↓x_bx]
    refine ⟨other, low, _, rfl, by rw [hlf]; exact okd other p0 p1, p0, p8, ?_⟩
    simp -implicitDefEqProofs -dsimp [-List.map_map, ↓lkK_0, ↓lkK_s, ↓stK_0, ↓stK_s, ↓x_var, ↓x_asg, ↓x_gtN, ↓stSK_c, ↓stSK_n, ↓x_par, ↓wpK_n, ↓wpK_c, ↓x_lcz, ↓x_lc2z, ↓x_lc2T, ↓x_app, ↓x_ext, ↓x_setI, ↓x_idxV, ↓x_lenV, ↓x_dget, ↓x_din, ↓x_dput, ↓atK_0, ↓atK_1, ↓atK_2, ↓atK_3, ↓atK_m1, ↓atK_m2, ↓atK_m3, ↓atK_m4, ↓x_idxl, ↓x_idxt, ↓x_idxs, ↓x_ret, ↓x_retN, ↓x_seq, ↓x_sif, ↓x_snil, ↓x_exp, ↓x_nev, ↓x_brk, ↓x_cnt, ↓x_sfor, ↓x_moNil, ↓x_moCons, ↓x_asgT, ↓x_gtT, ↓x_gtCons, ↓x_gtNil, ↓x_retV, ↓x_mov, ↓x_c, ↓x_bin, ↓x_un, ↓x_and, ↓x_or, ↓x_not, ↓x_ifE, ↓x_chain, ↓x_cb, ↓x_anil, ↓x_cons, ↓x_star, ↓x_tup, ↓x_lst, ↓x_dic0, ↓x_call, ↓x_callK, ↓x_yes, ↓x_toD, ↓x_toDo, ↓x_toB, ↓x_wT, ↓x_wF, ↓x_wD, ↓x_wN, ↓x_sub, ↓x_mul, ↓x_fdv, ↓x_mod, ↓x_pow, ↓x_lt, ↓x_le, ↓x_gt, ↓x_ge, ↓x_addi, ↓x_adds, ↓x_addt, ↓x_addl, ↓x_eqi, ↓x_nei, ↓x_eqs, ↓x_nes, ↓x_int, ↓x_nit, ↓x_inl, ↓x_nil, ↓x_isN, ↓x_notN, ↓x_neg, ↓x_lens, ↓x_lent, ↓x_lenl, ↓x_abs, ↓x_inti, ↓x_intb, ↓x_max, ↓x_min, ↓x_tofl, ↓x_toft, ↓x_lofl, ↓x_loft, ↓x_iseq, ↓x_sqt, ↓x_sql, ↓x_turn, ↓x_lstR1, ↓x_rg1, ↓x_rg2, ↓x_rgK, ↓x_rgK1, ↓x_rgK2, ↓x_isi_non_int, ↓x_isi_non_bool, ↓x_isi_non_str, ↓x_isi_non_tuple, ↓x_isi_non_list, ↓x_isi_bl_int, ↓x_isi_bl_bool, ↓x_isi_bl_str, ↓x_isi_bl_tuple, ↓x_isi_bl_list, ↓x_isi_int_int, ↓x_isi_int_bool, ↓x_isi_int_str, ↓x_isi_int_tuple, ↓x_isi_int_list, ↓x_isi_str_int, ↓x_isi_str_bool, ↓x_isi_str_str, ↓x_isi_str_tuple, ↓x_isi_str_list, ↓x_isi_tup_int, ↓x_isi_tup_bool, ↓x_isi_tup_str, ↓x_isi_tup_tuple, ↓x_isi_tup_list, ↓x_isi_lst_int, ↓x_isi_lst_bool, ↓x_isi_lst_str, ↓x_isi_lst_tuple, ↓x_isi_lst_list, ↓x_all, ↓x_any, ↓x_sum, ↓x_bln, ↓x_blc, ↓x_itn, ↓x_itc, x_wG, tyD, ↓x_pot0, ↓x_pot1, ↓x_pot2, ↓x_pset0, ↓x_pset2, ↓x_vK, ↓x_cutnn, ↓x_cutns, ↓x_cutsn, ↓x_cutl, ↓x_cutt, ↓x_kyi, ↓x_kys, ↓x_ops, ↓x_kin, ↓x_kidx, ↓x_bm, ↓x_kindl, ↓x_kinds, ↓x_eqb, ↓x_neb, KD_MOST_MOTION, K_QUARTERS, ↓x_bx]
    refine ⟨low, _, rfl, l1, by omega, by rw [ledL_length, ledL_length]; omega, g64, ?_⟩
    rw [form]
    simp -implicitDefEqProofs only [↓x_toD]
    refine gRepr_of (rp_red l1 l2 (by rw [ledL_length, ledL_length]; omega) h2far) (by decide) (by decide) ?_
    simp -implicitDefEqProofs -dsimp [-List.map_map, ↓S_law_of, ↓lkK_0, ↓lkK_s, ↓stK_0, ↓stK_s, ↓x_var, ↓x_asg, ↓x_gtN, ↓stSK_c, ↓stSK_n, ↓x_par, ↓wpK_n, ↓wpK_c, ↓x_lcz, ↓x_lc2z, ↓x_lc2T, ↓x_app, ↓x_ext, ↓x_setI, ↓x_idxV, ↓x_lenV, ↓x_dget, ↓x_din, ↓x_dput, ↓atK_0, ↓atK_1, ↓atK_2, ↓atK_3, ↓atK_m1, ↓atK_m2, ↓atK_m3, ↓atK_m4, ↓x_idxl, ↓x_idxt, ↓x_idxs, ↓x_ret, ↓x_retN, ↓x_seq, ↓x_sif, ↓x_snil, ↓x_exp, ↓x_nev, ↓x_brk, ↓x_cnt, ↓x_sfor, ↓x_moNil, ↓x_moCons, ↓x_asgT, ↓x_gtT, ↓x_gtCons, ↓x_gtNil, ↓x_retV, ↓x_mov, ↓x_c, ↓x_bin, ↓x_un, ↓x_and, ↓x_or, ↓x_not, ↓x_ifE, ↓x_chain, ↓x_cb, ↓x_anil, ↓x_cons, ↓x_star, ↓x_tup, ↓x_lst, ↓x_dic0, ↓x_call, ↓x_callK, ↓x_yes, ↓x_toD, ↓x_toDo, ↓x_toB, ↓x_wT, ↓x_wF, ↓x_wD, ↓x_wN, ↓x_sub, ↓x_mul, ↓x_fdv, ↓x_mod, ↓x_pow, ↓x_lt, ↓x_le, ↓x_gt, ↓x_ge, ↓x_addi, ↓x_adds, ↓x_addt, ↓x_addl, ↓x_eqi, ↓x_nei, ↓x_eqs, ↓x_nes, ↓x_int, ↓x_nit, ↓x_inl, ↓x_nil, ↓x_isN, ↓x_notN, ↓x_neg, ↓x_lens, ↓x_lent, ↓x_lenl, ↓x_abs, ↓x_inti, ↓x_intb, ↓x_max, ↓x_min, ↓x_tofl, ↓x_toft, ↓x_lofl, ↓x_loft, ↓x_iseq, ↓x_sqt, ↓x_sql, ↓x_turn, ↓x_lstR1, ↓x_rg1, ↓x_rg2, ↓x_rgK, ↓x_rgK1, ↓x_rgK2, ↓x_isi_non_int, ↓x_isi_non_bool, ↓x_isi_non_str, ↓x_isi_non_tuple, ↓x_isi_non_list, ↓x_isi_bl_int, ↓x_isi_bl_bool, ↓x_isi_bl_str, ↓x_isi_bl_tuple, ↓x_isi_bl_list, ↓x_isi_int_int, ↓x_isi_int_bool, ↓x_isi_int_str, ↓x_isi_int_tuple, ↓x_isi_int_list, ↓x_isi_str_int, ↓x_isi_str_bool, ↓x_isi_str_str, ↓x_isi_str_tuple, ↓x_isi_str_list, ↓x_isi_tup_int, ↓x_isi_tup_bool, ↓x_isi_tup_str, ↓x_isi_tup_tuple, ↓x_isi_tup_list, ↓x_isi_lst_int, ↓x_isi_lst_bool, ↓x_isi_lst_str, ↓x_isi_lst_tuple, ↓x_isi_lst_list, ↓x_all, ↓x_any, ↓x_sum, ↓x_bln, ↓x_blc, ↓x_itn, ↓x_itc, x_wG, tyD, ↓x_pot0, ↓x_pot1, ↓x_pot2, ↓x_pset0, ↓x_pset2, ↓x_vK, ↓x_cutnn, ↓x_cutns, ↓x_cutsn, ↓x_cutl, ↓x_cutt, ↓x_kyi, ↓x_kys, ↓x_ops, ↓x_kin, ↓x_kidx, ↓x_bm, ↓x_kindl, ↓x_kinds, ↓x_eqb, ↓x_neb, KD_MOST_MOTION, K_QUARTERS, ↓x_bx]
    refine ⟨by decide, by omega, fun dz n5 hdz c5 d5 => ?_⟩
    obtain ⟨size, rfl, z1, z2⟩ : ∃ low, dz = .int low ∧ 1 ≤ low ∧ low ≤ 10 ^ 20 := by
      rcases hdz with rfl | rfl | rfl | rfl | rfl | rfl | rfl <;> exact ⟨_, rfl, by decide, by decide⟩
    clear hdz
    refine ⟨by omega, by omega, ?_⟩
    refine lcL_ind (fun es acc m => ∃ ts : List Int, acc = ts.map D.int ∧ (∀ t ∈ ts, 0 ≤ t ∧ t < size) ∧ (ts.length : Int) + es.length = s ∧ n5 ≤ m ∧ m + es.length ≤ n5 + s.toNat) ?_ ?_ _ _ _ ⟨[], rfl, by simp, by simp [rngD]; omega, by omega, by simp [rngD]⟩
    rotate_left
    · rintro e es acc m K hK ⟨ts, rfl, ht, hl, e1, e2⟩
      rw [List.length_cons] at hl e2
      simp -implicitDefEqProofs -dsimp [-List.map_map, ↓S_law_take, ↓lkK_0, ↓lkK_s, ↓stK_0, ↓stK_s, ↓x_var, ↓x_asg, ↓x_gtN, ↓stSK_c, ↓stSK_n, ↓x_par, ↓wpK_n, ↓wpK_c, ↓x_lcz, ↓x_lc2z, ↓x_lc2T, ↓x_app, ↓x_ext, ↓x_setI, ↓x_idxV, ↓x_lenV, ↓x_dget, ↓x_din, ↓x_dput, ↓atK_0, ↓atK_1, ↓atK_2, ↓atK_3, ↓atK_m1, ↓atK_m2, ↓atK_m3, ↓atK_m4, ↓x_idxl, ↓x_idxt, ↓x_idxs, ↓x_ret, ↓x_retN, ↓x_seq, ↓x_sif, ↓x_snil, ↓x_exp, ↓x_nev, ↓x_brk, ↓x_cnt, ↓x_sfor, ↓x_moNil, ↓x_moCons, ↓x_asgT, ↓x_gtT, ↓x_gtCons, ↓x_gtNil, ↓x_retV, ↓x_mov, ↓x_c, ↓x_bin, ↓x_un, ↓x_and, ↓x_or, ↓x_not, ↓x_ifE, ↓x_chain, ↓x_cb, ↓x_anil, ↓x_cons, ↓x_star, ↓x_tup, ↓x_lst, ↓x_dic0, ↓x_call, ↓x_callK, ↓x_yes, ↓x_toD, ↓x_toDo, ↓x_toB, ↓x_wT, ↓x_wF, ↓x_wD, ↓x_wN, ↓x_sub, ↓x_mul, ↓x_fdv, ↓x_mod, ↓x_pow, ↓x_lt, ↓x_le, ↓x_gt, ↓x_ge, ↓x_addi, ↓x_adds, ↓x_addt, ↓x_addl, ↓x_eqi, ↓x_nei, ↓x_eqs, ↓x_nes, ↓x_int, ↓x_nit, ↓x_inl, ↓x_nil, ↓x_isN, ↓x_notN, ↓x_neg, ↓x_lens, ↓x_lent, ↓x_lenl, ↓x_abs, ↓x_inti, ↓x_intb, ↓x_max, ↓x_min, ↓x_tofl, ↓x_toft, ↓x_lofl, ↓x_loft, ↓x_iseq, ↓x_sqt, ↓x_sql, ↓x_turn, ↓x_lstR1, ↓x_rg1, ↓x_rg2, ↓x_rgK, ↓x_rgK1, ↓x_rgK2, ↓x_isi_non_int, ↓x_isi_non_bool, ↓x_isi_non_str, ↓x_isi_non_tuple, ↓x_isi_non_list, ↓x_isi_bl_int, ↓x_isi_bl_bool, ↓x_isi_bl_str, ↓x_isi_bl_tuple, ↓x_isi_bl_list, ↓x_isi_int_int, ↓x_isi_int_bool, ↓x_isi_int_str, ↓x_isi_int_tuple, ↓x_isi_int_list, ↓x_isi_str_int, ↓x_isi_str_bool, ↓x_isi_str_str, ↓x_isi_str_tuple, ↓x_isi_str_list, ↓x_isi_tup_int, ↓x_isi_tup_bool, ↓x_isi_tup_str, ↓x_isi_tup_tuple, ↓x_isi_tup_list, ↓x_isi_lst_int, ↓x_isi_lst_bool, ↓x_isi_lst_str, ↓x_isi_lst_tuple, ↓x_isi_lst_list, ↓x_all, ↓x_any, ↓x_sum, ↓x_bln, ↓x_blc, ↓x_itn, ↓x_itc, x_wG, tyD, ↓x_pot0, ↓x_pot1, ↓x_pot2, ↓x_pset0, ↓x_pset2, ↓x_vK, ↓x_cutnn, ↓x_cutns, ↓x_cutsn, ↓x_cutl, ↓x_cutt, ↓x_kyi, ↓x_kys, ↓x_ops, ↓x_kin, ↓x_kidx, ↓x_bm, ↓x_kindl, ↓x_kinds, ↓x_eqb, ↓x_neb, KD_MOST_MOTION, K_QUARTERS, ↓x_bx]
      refine ⟨by omega, by omega, by omega, fun t m2 t0 t1 f1 f2 => ⟨by simp at hl ⊢; omega, hK _ _ ⟨ts ++ [t], by simp, ?_, by simp; omega, by omega, by omega⟩⟩⟩
      intro z hz
      rcases List.mem_append.mp hz with hz | hz
      · exact ht z hz
      · simp at hz; subst hz; exact ⟨t0, by omega⟩
    rintro _ n6 ⟨cell, rfl, hc, hcl, c6, d6⟩
    have hcl' : (cell.length : Int) = s := by simpa using hcl
    have hcl12 : cell.length = 1 ∨ cell.length = 2 := by omega
    have hled : ∀ x ∈ ledL one (size - 1) cell, 0 ≤ x ∧ x < size := fun x hx => by
      have := led_in hcl12 o0 o8 (low := size - 1) (fun y hy => by have := hc y hy; omega) x hx
      omega
    simp -implicitDefEqProofs -dsimp [-List.map_map, ↓lkK_0, ↓lkK_s, ↓stK_0, ↓stK_s, ↓x_var, ↓x_asg, ↓x_gtN, ↓stSK_c, ↓stSK_n, ↓x_par, ↓wpK_n, ↓wpK_c, ↓x_lcz, ↓x_lc2z, ↓x_lc2T, ↓x_app, ↓x_ext, ↓x_setI, ↓x_idxV, ↓x_lenV, ↓x_dget, ↓x_din, ↓x_dput, ↓atK_0, ↓atK_1, ↓atK_2, ↓atK_3, ↓atK_m1, ↓atK_m2, ↓atK_m3, ↓atK_m4, ↓x_idxl, ↓x_idxt, ↓x_idxs, ↓x_ret, ↓x_retN, ↓x_seq, ↓x_sif, ↓x_snil, ↓x_exp, ↓x_nev, ↓x_brk, ↓x_cnt, ↓x_sfor, ↓x_moNil, ↓x_moCons, ↓x_asgT, ↓x_gtT, ↓x_gtCons, ↓x_gtNil, ↓x_retV, ↓x_mov, ↓x_c, ↓x_bin, ↓x_un, ↓x_and, ↓x_or, ↓x_not, ↓x_ifE, ↓x_chain, ↓x_cb, ↓x_anil, ↓x_cons, ↓x_star, ↓x_tup, ↓x_lst, ↓x_dic0, ↓x_call, ↓x_callK, ↓x_yes, ↓x_toD, ↓x_toDo, ↓x_toB, ↓x_wT, ↓x_wF, ↓x_wD, ↓x_wN, ↓x_sub, ↓x_mul, ↓x_fdv, ↓x_mod, ↓x_pow, ↓x_lt, ↓x_le, ↓x_gt, ↓x_ge, ↓x_addi, ↓x_adds, ↓x_addt, ↓x_addl, ↓x_eqi, ↓x_nei, ↓x_eqs, ↓x_nes, ↓x_int, ↓x_nit, ↓x_inl, ↓x_nil, ↓x_isN, ↓x_notN, ↓x_neg, ↓x_lens, ↓x_lent, ↓x_lenl, ↓x_abs, ↓x_inti, ↓x_intb, ↓x_max, ↓x_min, ↓x_tofl, ↓x_toft, ↓x_lofl, ↓x_loft, ↓x_iseq, ↓x_sqt, ↓x_sql, ↓x_turn, ↓x_lstR1, ↓x_rg1, ↓x_rg2, ↓x_rgK, ↓x_rgK1, ↓x_rgK2, ↓x_isi_non_int, ↓x_isi_non_bool, ↓x_isi_non_str, ↓x_isi_non_tuple, ↓x_isi_non_list, ↓x_isi_bl_int, ↓x_isi_bl_bool, ↓x_isi_bl_str, ↓x_isi_bl_tuple, ↓x_isi_bl_list, ↓x_isi_int_int, ↓x_isi_int_bool, ↓x_isi_int_str, ↓x_isi_int_tuple, ↓x_isi_int_list, ↓x_isi_str_int, ↓x_isi_str_bool, ↓x_isi_str_str, ↓x_isi_str_tuple, ↓x_isi_str_list, ↓x_isi_tup_int, ↓x_isi_tup_bool, ↓x_isi_tup_str, ↓x_isi_tup_tuple, ↓x_isi_tup_list, ↓x_isi_lst_int, ↓x_isi_lst_bool, ↓x_isi_lst_str, ↓x_isi_lst_tuple, ↓x_isi_lst_list, ↓x_all, ↓x_any, ↓x_sum, ↓x_bln, ↓x_blc, ↓x_itn, ↓x_itc, x_wG, tyD, ↓x_pot0, ↓x_pot1, ↓x_pot2, ↓x_pset0, ↓x_pset2, ↓x_vK, ↓x_cutnn, ↓x_cutns, ↓x_cutsn, ↓x_cutl, ↓x_cutt, ↓x_kyi, ↓x_kys, ↓x_ops, ↓x_kin, ↓x_kidx, ↓x_bm, ↓x_kindl, ↓x_kinds, ↓x_eqb, ↓x_neb, KD_MOST_MOTION, K_QUARTERS, ↓x_bx]
    refine ⟨s, size, one, cell, rfl, hs, hcl', z1, o0, mostM_of hs o1, hc, ?_⟩
    simp -implicitDefEqProofs -dsimp [-List.map_map, ↓lkK_0, ↓lkK_s, ↓stK_0, ↓stK_s, ↓x_var, ↓x_asg, ↓x_gtN, ↓stSK_c, ↓stSK_n, ↓x_par, ↓wpK_n, ↓wpK_c, ↓x_lcz, ↓x_lc2z, ↓x_lc2T, ↓x_app, ↓x_ext, ↓x_setI, ↓x_idxV, ↓x_lenV, ↓x_dget, ↓x_din, ↓x_dput, ↓atK_0, ↓atK_1, ↓atK_2, ↓atK_3, ↓atK_m1, ↓atK_m2, ↓atK_m3, ↓atK_m4, ↓x_idxl, ↓x_idxt, ↓x_idxs, ↓x_ret, ↓x_retN, ↓x_seq, ↓x_sif, ↓x_snil, ↓x_exp, ↓x_nev, ↓x_brk, ↓x_cnt, ↓x_sfor, ↓x_moNil, ↓x_moCons, ↓x_asgT, ↓x_gtT, ↓x_gtCons, ↓x_gtNil, ↓x_retV, ↓x_mov, ↓x_c, ↓x_bin, ↓x_un, ↓x_and, ↓x_or, ↓x_not, ↓x_ifE, ↓x_chain, ↓x_cb, ↓x_anil, ↓x_cons, ↓x_star, ↓x_tup, ↓x_lst, ↓x_dic0, ↓x_call, ↓x_callK, ↓x_yes, ↓x_toD, ↓x_toDo, ↓x_toB, ↓x_wT, ↓x_wF, ↓x_wD, ↓x_wN, ↓x_sub, ↓x_mul, ↓x_fdv, ↓x_mod, ↓x_pow, ↓x_lt, ↓x_le, ↓x_gt, ↓x_ge, ↓x_addi, ↓x_adds, ↓x_addt, ↓x_addl, ↓x_eqi, ↓x_nei, ↓x_eqs, ↓x_nes, ↓x_int, ↓x_nit, ↓x_inl, ↓x_nil, ↓x_isN, ↓x_notN, ↓x_neg, ↓x_lens, ↓x_lent, ↓x_lenl, ↓x_abs, ↓x_inti, ↓x_intb, ↓x_max, ↓x_min, ↓x_tofl, ↓x_toft, ↓x_lofl, ↓x_loft, ↓x_iseq, ↓x_sqt, ↓x_sql, ↓x_turn, ↓x_lstR1, ↓x_rg1, ↓x_rg2, ↓x_rgK, ↓x_rgK1, ↓x_rgK2, ↓x_isi_non_int, ↓x_isi_non_bool, ↓x_isi_non_str, ↓x_isi_non_tuple, ↓x_isi_non_list, ↓x_isi_bl_int, ↓x_isi_bl_bool, ↓x_isi_bl_str, ↓x_isi_bl_tuple, ↓x_isi_bl_list, ↓x_isi_int_int, ↓x_isi_int_bool, ↓x_isi_int_str, ↓x_isi_int_tuple, ↓x_isi_int_list, ↓x_isi_str_int, ↓x_isi_str_bool, ↓x_isi_str_str, ↓x_isi_str_tuple, ↓x_isi_str_list, ↓x_isi_tup_int, ↓x_isi_tup_bool, ↓x_isi_tup_str, ↓x_isi_tup_tuple, ↓x_isi_tup_list, ↓x_isi_lst_int, ↓x_isi_lst_bool, ↓x_isi_lst_str, ↓x_isi_lst_tuple, ↓x_isi_lst_list, ↓x_all, ↓x_any, ↓x_sum, ↓x_bln, ↓x_blc, ↓x_itn, ↓x_itc, x_wG, tyD, ↓x_pot0, ↓x_pot1, ↓x_pot2, ↓x_pset0, ↓x_pset2, ↓x_vK, ↓x_cutnn, ↓x_cutns, ↓x_cutsn, ↓x_cutl, ↓x_cutt, ↓x_kyi, ↓x_kys, ↓x_ops, ↓x_kin, ↓x_kidx, ↓x_bm, ↓x_kindl, ↓x_kinds, ↓x_eqb, ↓x_neb, KD_MOST_MOTION, K_QUARTERS, ↓x_bx]
    refine gRepr_of (rp_cell (by rw [ledL_length]; omega) z2 hled) (by decide) (by decide) ?_
    simp -implicitDefEqProofs -dsimp [-List.map_map, ↓lkK_0, ↓lkK_s, ↓stK_0, ↓stK_s, ↓x_var, ↓x_asg, ↓x_gtN, ↓stSK_c, ↓stSK_n, ↓x_par, ↓wpK_n, ↓wpK_c, ↓x_lcz, ↓x_lc2z, ↓x_lc2T, ↓x_app, ↓x_ext, ↓x_setI, ↓x_idxV, ↓x_lenV, ↓x_dget, ↓x_din, ↓x_dput, ↓atK_0, ↓atK_1, ↓atK_2, ↓atK_3, ↓atK_m1, ↓atK_m2, ↓atK_m3, ↓atK_m4, ↓x_idxl, ↓x_idxt, ↓x_idxs, ↓x_ret, ↓x_retN, ↓x_seq, ↓x_sif, ↓x_snil, ↓x_exp, ↓x_nev, ↓x_brk, ↓x_cnt, ↓x_sfor, ↓x_moNil, ↓x_moCons, ↓x_asgT, ↓x_gtT, ↓x_gtCons, ↓x_gtNil, ↓x_retV, ↓x_mov, ↓x_c, ↓x_bin, ↓x_un, ↓x_and, ↓x_or, ↓x_not, ↓x_ifE, ↓x_chain, ↓x_cb, ↓x_anil, ↓x_cons, ↓x_star, ↓x_tup, ↓x_lst, ↓x_dic0, ↓x_call, ↓x_callK, ↓x_yes, ↓x_toD, ↓x_toDo, ↓x_toB, ↓x_wT, ↓x_wF, ↓x_wD, ↓x_wN, ↓x_sub, ↓x_mul, ↓x_fdv, ↓x_mod, ↓x_pow, ↓x_lt, ↓x_le, ↓x_gt, ↓x_ge, ↓x_addi, ↓x_adds, ↓x_addt, ↓x_addl, ↓x_eqi, ↓x_nei, ↓x_eqs, ↓x_nes, ↓x_int, ↓x_nit, ↓x_inl, ↓x_nil, ↓x_isN, ↓x_notN, ↓x_neg, ↓x_lens, ↓x_lent, ↓x_lenl, ↓x_abs, ↓x_inti, ↓x_intb, ↓x_max, ↓x_min, ↓x_tofl, ↓x_toft, ↓x_lofl, ↓x_loft, ↓x_iseq, ↓x_sqt, ↓x_sql, ↓x_turn, ↓x_lstR1, ↓x_rg1, ↓x_rg2, ↓x_rgK, ↓x_rgK1, ↓x_rgK2, ↓x_isi_non_int, ↓x_isi_non_bool, ↓x_isi_non_str, ↓x_isi_non_tuple, ↓x_isi_non_list, ↓x_isi_bl_int, ↓x_isi_bl_bool, ↓x_isi_bl_str, ↓x_isi_bl_tuple, ↓x_isi_bl_list, ↓x_isi_int_int, ↓x_isi_int_bool, ↓x_isi_int_str, ↓x_isi_int_tuple, ↓x_isi_int_list, ↓x_isi_str_int, ↓x_isi_str_bool, ↓x_isi_str_str, ↓x_isi_str_tuple, ↓x_isi_str_list, ↓x_isi_tup_int, ↓x_isi_tup_bool, ↓x_isi_tup_str, ↓x_isi_tup_tuple, ↓x_isi_tup_list, ↓x_isi_lst_int, ↓x_isi_lst_bool, ↓x_isi_lst_str, ↓x_isi_lst_tuple, ↓x_isi_lst_list, ↓x_all, ↓x_any, ↓x_sum, ↓x_bln, ↓x_blc, ↓x_itn, ↓x_itc, x_wG, tyD, ↓x_pot0, ↓x_pot1, ↓x_pot2, ↓x_pset0, ↓x_pset2, ↓x_vK, ↓x_cutnn, ↓x_cutns, ↓x_cutsn, ↓x_cutl, ↓x_cutt, ↓x_kyi, ↓x_kys, ↓x_ops, ↓x_kin, ↓x_kidx, ↓x_bm, ↓x_kindl, ↓x_kinds, ↓x_eqb, ↓x_neb, KD_MOST_MOTION, K_QUARTERS, ↓x_bx]
    refine ⟨one, size - 1, cell, rfl, ledL_ok hs hcl' o0 o1, o0, o8, ?_⟩
    simp -implicitDefEqProofs only [↓x_toD]
    refine gRepr_of (rp_cell (by rw [ledL_length]; omega) z2 hled) (by decide) (by decide) ?_
    simp -implicitDefEqProofs -dsimp [-List.map_map, ↓S_back_motion, ↓lkK_0, ↓lkK_s, ↓stK_0, ↓stK_s, ↓x_var, ↓x_asg, ↓x_gtN, ↓stSK_c, ↓stSK_n, ↓x_par, ↓wpK_n, ↓wpK_c, ↓x_lcz, ↓x_lc2z, ↓x_lc2T, ↓x_app, ↓x_ext, ↓x_setI, ↓x_idxV, ↓x_lenV, ↓x_dget, ↓x_din, ↓x_dput, ↓atK_0, ↓atK_1, ↓atK_2, ↓atK_3, ↓atK_m1, ↓atK_m2, ↓atK_m3, ↓atK_m4, ↓x_idxl, ↓x_idxt, ↓x_idxs, ↓x_ret, ↓x_retN, ↓x_seq, ↓x_sif, ↓x_snil, ↓x_exp, ↓x_nev, ↓x_brk, ↓x_cnt, ↓x_sfor, ↓x_moNil, ↓x_moCons, ↓x_asgT, ↓x_gtT, ↓x_gtCons, ↓x_gtNil, ↓x_retV, ↓x_mov, ↓x_c, ↓x_bin, ↓x_un, ↓x_and, ↓x_or, ↓x_not, ↓x_ifE, ↓x_chain, ↓x_cb, ↓x_anil, ↓x_cons, ↓x_star, ↓x_tup, ↓x_lst, ↓x_dic0, ↓x_call, ↓x_callK, ↓x_yes, ↓x_toD, ↓x_toDo, ↓x_toB, ↓x_wT, ↓x_wF, ↓x_wD, ↓x_wN, ↓x_sub, ↓x_mul, ↓x_fdv, ↓x_mod, ↓x_pow, ↓x_lt, ↓x_le, ↓x_gt, ↓x_ge, ↓x_addi, ↓x_adds, ↓x_addt, ↓x_addl, ↓x_eqi, ↓x_nei, ↓x_eqs, ↓x_nes, ↓x_int, ↓x_nit, ↓x_inl, ↓x_nil, ↓x_isN, ↓x_notN, ↓x_neg, ↓x_lens, ↓x_lent, ↓x_lenl, ↓x_abs, ↓x_inti, ↓x_intb, ↓x_max, ↓x_min, ↓x_tofl, ↓x_toft, ↓x_lofl, ↓x_loft, ↓x_iseq, ↓x_sqt, ↓x_sql, ↓x_turn, ↓x_lstR1, ↓x_rg1, ↓x_rg2, ↓x_rgK, ↓x_rgK1, ↓x_rgK2, ↓x_isi_non_int, ↓x_isi_non_bool, ↓x_isi_non_str, ↓x_isi_non_tuple, ↓x_isi_non_list, ↓x_isi_bl_int, ↓x_isi_bl_bool, ↓x_isi_bl_str, ↓x_isi_bl_tuple, ↓x_isi_bl_list, ↓x_isi_int_int, ↓x_isi_int_bool, ↓x_isi_int_str, ↓x_isi_int_tuple, ↓x_isi_int_list, ↓x_isi_str_int, ↓x_isi_str_bool, ↓x_isi_str_str, ↓x_isi_str_tuple, ↓x_isi_str_list, ↓x_isi_tup_int, ↓x_isi_tup_bool, ↓x_isi_tup_str, ↓x_isi_tup_tuple, ↓x_isi_tup_list, ↓x_isi_lst_int, ↓x_isi_lst_bool, ↓x_isi_lst_str, ↓x_isi_lst_tuple, ↓x_isi_lst_list, ↓x_all, ↓x_any, ↓x_sum, ↓x_bln, ↓x_blc, ↓x_itn, ↓x_itc, x_wG, tyD, ↓x_pot0, ↓x_pot1, ↓x_pot2, ↓x_pset0, ↓x_pset2, ↓x_vK, ↓x_cutnn, ↓x_cutns, ↓x_cutsn, ↓x_cutl, ↓x_cutt, ↓x_kyi, ↓x_kys, ↓x_ops, ↓x_kin, ↓x_kidx, ↓x_bm, ↓x_kindl, ↓x_kinds, ↓x_eqb, ↓x_neb, KD_MOST_MOTION, K_QUARTERS, ↓x_bx]
    obtain ⟨f1, f2, f3, f4⟩ := back_find hs o0 o1
    refine ⟨hs, o0, mostM_of hs o1, ?_⟩
    refine ⟨s, size, _, _, rfl, hs, by rw [ledL_length]; exact hcl', z1, f2, mostM_of hs f3, hled, ?_⟩
    rw [← led_comp hs hcl' o0 o1 f2 f3, f1, led_zero hs hcl']
    simp -implicitDefEqProofs only [↓x_toD]
    refine gRepr_of (rp_cell (by omega) z2 hc) (by decide) (by decide) ?_
    simp -implicitDefEqProofs -dsimp [-List.map_map, ↓lkK_0, ↓lkK_s, ↓stK_0, ↓stK_s, ↓x_var, ↓x_asg, ↓x_gtN, ↓stSK_c, ↓stSK_n, ↓x_par, ↓wpK_n, ↓wpK_c, ↓x_lcz, ↓x_lc2z, ↓x_lc2T, ↓x_app, ↓x_ext, ↓x_setI, ↓x_idxV, ↓x_lenV, ↓x_dget, ↓x_din, ↓x_dput, ↓atK_0, ↓atK_1, ↓atK_2, ↓atK_3, ↓atK_m1, ↓atK_m2, ↓atK_m3, ↓atK_m4, ↓x_idxl, ↓x_idxt, ↓x_idxs, ↓x_ret, ↓x_retN, ↓x_seq, ↓x_sif, ↓x_snil, ↓x_exp, ↓x_nev, ↓x_brk, ↓x_cnt, ↓x_sfor, ↓x_moNil, ↓x_moCons, ↓x_asgT, ↓x_gtT, ↓x_gtCons, ↓x_gtNil, ↓x_retV, ↓x_mov, ↓x_c, ↓x_bin, ↓x_un, ↓x_and, ↓x_or, ↓x_not, ↓x_ifE, ↓x_chain, ↓x_cb, ↓x_anil, ↓x_cons, ↓x_star, ↓x_tup, ↓x_lst, ↓x_dic0, ↓x_call, ↓x_callK, ↓x_yes, ↓x_toD, ↓x_toDo, ↓x_toB, ↓x_wT, ↓x_wF, ↓x_wD, ↓x_wN, ↓x_sub, ↓x_mul, ↓x_fdv, ↓x_mod, ↓x_pow, ↓x_lt, ↓x_le, ↓x_gt, ↓x_ge, ↓x_addi, ↓x_adds, ↓x_addt, ↓x_addl, ↓x_eqi, ↓x_nei, ↓x_eqs, ↓x_nes, ↓x_int, ↓x_nit, ↓x_inl, ↓x_nil, ↓x_isN, ↓x_notN, ↓x_neg, ↓x_lens, ↓x_lent, ↓x_lenl, ↓x_abs, ↓x_inti, ↓x_intb, ↓x_max, ↓x_min, ↓x_tofl, ↓x_toft, ↓x_lofl, ↓x_loft, ↓x_iseq, ↓x_sqt, ↓x_sql, ↓x_turn, ↓x_lstR1, ↓x_rg1, ↓x_rg2, ↓x_rgK, ↓x_rgK1, ↓x_rgK2, ↓x_isi_non_int, ↓x_isi_non_bool, ↓x_isi_non_str, ↓x_isi_non_tuple, ↓x_isi_non_list, ↓x_isi_bl_int, ↓x_isi_bl_bool, ↓x_isi_bl_str, ↓x_isi_bl_tuple, ↓x_isi_bl_list, ↓x_isi_int_int, ↓x_isi_int_bool, ↓x_isi_int_str, ↓x_isi_int_tuple, ↓x_isi_int_list, ↓x_isi_str_int, ↓x_isi_str_bool, ↓x_isi_str_str, ↓x_isi_str_tuple, ↓x_isi_str_list, ↓x_isi_tup_int, ↓x_isi_tup_bool, ↓x_isi_tup_str, ↓x_isi_tup_tuple, ↓x_isi_tup_list, ↓x_isi_lst_int, ↓x_isi_lst_bool, ↓x_isi_lst_str, ↓x_isi_lst_tuple, ↓x_isi_lst_list, ↓x_all, ↓x_any, ↓x_sum, ↓x_bln, ↓x_blc, ↓x_itn, ↓x_itc, x_wG, tyD, ↓x_pot0, ↓x_pot1, ↓x_pot2, ↓x_pset0, ↓x_pset2, ↓x_vK, ↓x_cutnn, ↓x_cutns, ↓x_cutsn, ↓x_cutl, ↓x_cutt, ↓x_kyi, ↓x_kys, ↓x_ops, ↓x_kin, ↓x_kidx, ↓x_bm, ↓x_kindl, ↓x_kinds, ↓x_eqb, ↓x_neb, KD_MOST_MOTION, K_QUARTERS, ↓x_bx]
    refine gRepr_of (rp_cell (by omega) z2 hc) (by decide) (by decide) ?_
    simp -implicitDefEqProofs -dsimp [-List.map_map, ↓lkK_0, ↓lkK_s, ↓stK_0, ↓stK_s, ↓x_var, ↓x_asg, ↓x_gtN, ↓stSK_c, ↓stSK_n, ↓x_par, ↓wpK_n, ↓wpK_c, ↓x_lcz, ↓x_lc2z, ↓x_lc2T, ↓x_app, ↓x_ext, ↓x_setI, ↓x_idxV, ↓x_lenV, ↓x_dget, ↓x_din, ↓x_dput, ↓atK_0, ↓atK_1, ↓atK_2, ↓atK_3, ↓atK_m1, ↓atK_m2, ↓atK_m3, ↓atK_m4, ↓x_idxl, ↓x_idxt, ↓x_idxs, ↓x_ret, ↓x_retN, ↓x_seq, ↓x_sif, ↓x_snil, ↓x_exp, ↓x_nev, ↓x_brk, ↓x_cnt, ↓x_sfor, ↓x_moNil, ↓x_moCons, ↓x_asgT, ↓x_gtT, ↓x_gtCons, ↓x_gtNil, ↓x_retV, ↓x_mov, ↓x_c, ↓x_bin, ↓x_un, ↓x_and, ↓x_or, ↓x_not, ↓x_ifE, ↓x_chain, ↓x_cb, ↓x_anil, ↓x_cons, ↓x_star, ↓x_tup, ↓x_lst, ↓x_dic0, ↓x_call, ↓x_callK, ↓x_yes, ↓x_toD, ↓x_toDo, ↓x_toB, ↓x_wT, ↓x_wF, ↓x_wD, ↓x_wN, ↓x_sub, ↓x_mul, ↓x_fdv, ↓x_mod, ↓x_pow, ↓x_lt, ↓x_le, ↓x_gt, ↓x_ge, ↓x_addi, ↓x_adds, ↓x_addt, ↓x_addl, ↓x_eqi, ↓x_nei, ↓x_eqs, ↓x_nes, ↓x_int, ↓x_nit, ↓x_inl, ↓x_nil, ↓x_isN, ↓x_notN, ↓x_neg, ↓x_lens, ↓x_lent, ↓x_lenl, ↓x_abs, ↓x_inti, ↓x_intb, ↓x_max, ↓x_min, ↓x_tofl, ↓x_toft, ↓x_lofl, ↓x_loft, ↓x_iseq, ↓x_sqt, ↓x_sql, ↓x_turn, ↓x_lstR1, ↓x_rg1, ↓x_rg2, ↓x_rgK, ↓x_rgK1, ↓x_rgK2, ↓x_isi_non_int, ↓x_isi_non_bool, ↓x_isi_non_str, ↓x_isi_non_tuple, ↓x_isi_non_list, ↓x_isi_bl_int, ↓x_isi_bl_bool, ↓x_isi_bl_str, ↓x_isi_bl_tuple, ↓x_isi_bl_list, ↓x_isi_int_int, ↓x_isi_int_bool, ↓x_isi_int_str, ↓x_isi_int_tuple, ↓x_isi_int_list, ↓x_isi_str_int, ↓x_isi_str_bool, ↓x_isi_str_str, ↓x_isi_str_tuple, ↓x_isi_str_list, ↓x_isi_tup_int, ↓x_isi_tup_bool, ↓x_isi_tup_str, ↓x_isi_tup_tuple, ↓x_isi_tup_list, ↓x_isi_lst_int, ↓x_isi_lst_bool, ↓x_isi_lst_str, ↓x_isi_lst_tuple, ↓x_isi_lst_list, ↓x_all, ↓x_any, ↓x_sum, ↓x_bln, ↓x_blc, ↓x_itn, ↓x_itc, x_wG, tyD, ↓x_pot0, ↓x_pot1, ↓x_pot2, ↓x_pset0, ↓x_pset2, ↓x_vK, ↓x_cutnn, ↓x_cutns, ↓x_cutsn, ↓x_cutl, ↓x_cutt, ↓x_kyi, ↓x_kys, ↓x_ops, ↓x_kin, ↓x_kidx, ↓x_bm, ↓x_kindl, ↓x_kinds, ↓x_eqb, ↓x_neb, KD_MOST_MOTION, K_QUARTERS, ↓x_bx]
    rw [show decide ((tupI cell).py.shown = (D.tup (List.map D.int cell)).py.shown) = true from decide_eq_true rfl]
    exact hR _ (by omega) (by simp at d6 d4; omega)
  · exact h.elim

def S_law_right : SpD := fun ds n R _ => match ds with
  | [.pot] => n ≤ 800000 ∧ ∀ n', n ≤ n' → n' ≤ n + 100 → R (.dat (.bl true)) n'
  | _ => False

def m_law_right : MS := sSeq (sIf (mNot (mCB gAll (aCons (mLc (iSeq (mTup (aCons (mC (.int 1)) (aCons (mC (.int 2)) (aNil))))) (gtN 1) (mYes) (mCall S_law_are_pairs_right (aCons (mVar 1) (aNil))) [1]) (aNil)))) (sRet (mC (.bl false))) (sNil)) (sRet (mCB gAll (aCons (mLc (iRg1 (aCons (mC (.int 7)) (aNil))) (gtN 2) (mYes) (mCall S_law_is_led_right (aCons (mVar 0) (aCons (mBin gAdd (mC (.int 1)) (mCB gInt (aCons (mBin gGt (mVar 2) (mC (.int 1))) (aNil)))) (aNil)))) [2]) (aNil))))
theorem sat_law_right : ∀ ds n R RX, S_law_right ds n R RX → fnM 1 3 m_law_right ds n R fun _ _ _ => False := by
  intro ds n R RX h
  unfold S_law_right at h
  split at h
  · obtain ⟨hn, hR⟩ := h
    refine ⟨rfl, ?_⟩
    simp only [startD, List.map_cons, List.map_nil, List.length_cons, List.length_nil, Nat.reduceAdd, Nat.reduceSub, List.replicate_succ, List.replicate_zero, List.cons_append, List.nil_append]; simp -implicitDefEqProofs -dsimp [↓m_law_right, ↓lkK_0, ↓lkK_s, ↓stK_0, ↓stK_s, ↓x_var, ↓x_asg, ↓x_gtN, ↓stSK_c, ↓stSK_n, ↓x_par, ↓wpK_n, ↓wpK_c, ↓x_lcz, ↓x_lc2z, ↓x_lc2T, ↓x_app, ↓x_ext, ↓x_setI, ↓x_idxV, ↓x_lenV, ↓x_dget, ↓x_din, ↓x_dput, ↓atK_0, ↓atK_1, ↓atK_2, ↓atK_3, ↓atK_m1, ↓atK_m2, ↓atK_m3, ↓atK_m4, ↓x_idxl, ↓x_idxt, ↓x_idxs, ↓x_ret, ↓x_retN, ↓x_seq, ↓x_sif, ↓x_snil, ↓x_exp, ↓x_nev, ↓x_brk, ↓x_cnt, ↓x_sfor, ↓x_moNil, ↓x_moCons, ↓x_asgT, ↓x_gtT, ↓x_gtCons, ↓x_gtNil, ↓x_retV, ↓x_mov, ↓x_c, ↓x_bin, ↓x_un, ↓x_and, ↓x_or, ↓x_not, ↓x_ifE, ↓x_chain, ↓x_cb, ↓x_anil, ↓x_cons, ↓x_star, ↓x_tup, ↓x_lst, ↓x_dic0, ↓x_call, ↓x_callK, ↓x_yes, ↓x_toD, ↓x_toDo, ↓x_toB, ↓x_wT, ↓x_wF, ↓x_wD, ↓x_wN, ↓x_sub, ↓x_mul, ↓x_fdv, ↓x_mod, ↓x_pow, ↓x_lt, ↓x_le, ↓x_gt, ↓x_ge, ↓x_addi, ↓x_adds, ↓x_addt, ↓x_addl, ↓x_eqi, ↓x_nei, ↓x_eqs, ↓x_nes, ↓x_int, ↓x_nit, ↓x_inl, ↓x_nil, ↓x_isN, ↓x_notN, ↓x_neg, ↓x_lens, ↓x_lent, ↓x_lenl, ↓x_abs, ↓x_inti, ↓x_intb, ↓x_max, ↓x_min, ↓x_tofl, ↓x_toft, ↓x_lofl, ↓x_loft, ↓x_iseq, ↓x_sqt, ↓x_sql, ↓x_turn, ↓x_lstR1, ↓x_rg1, ↓x_rg2, ↓x_rgK, ↓x_rgK1, ↓x_rgK2, ↓x_isi_non_int, ↓x_isi_non_bool, ↓x_isi_non_str, ↓x_isi_non_tuple, ↓x_isi_non_list, ↓x_isi_bl_int, ↓x_isi_bl_bool, ↓x_isi_bl_str, ↓x_isi_bl_tuple, ↓x_isi_bl_list, ↓x_isi_int_int, ↓x_isi_int_bool, ↓x_isi_int_str, ↓x_isi_int_tuple, ↓x_isi_int_list, ↓x_isi_str_int, ↓x_isi_str_bool, ↓x_isi_str_str, ↓x_isi_str_tuple, ↓x_isi_str_list, ↓x_isi_tup_int, ↓x_isi_tup_bool, ↓x_isi_tup_str, ↓x_isi_tup_tuple, ↓x_isi_tup_list, ↓x_isi_lst_int, ↓x_isi_lst_bool, ↓x_isi_lst_str, ↓x_isi_lst_tuple, ↓x_isi_lst_list, ↓x_all, ↓x_any, ↓x_sum, ↓x_bln, ↓x_blc, ↓x_itn, ↓x_itc, x_wG, tyD, ↓x_pot0, ↓x_pot1, ↓x_pot2, ↓x_pset0, ↓x_pset2, ↓x_vK, ↓x_cutnn, ↓x_cutns, ↓x_cutsn, ↓x_cutl, ↓x_cutt, ↓x_kyi, ↓x_kys, ↓x_ops, ↓x_kin, ↓x_kidx, ↓x_bm, ↓x_kindl, ↓x_kinds, ↓x_eqb, ↓x_neb, KD_MOST_MOTION, K_QUARTERS, ↓x_bx]
    refine lcL_of (fun s : Int => D.int s) (fun _ => D.bl true) (xs := [1, 2]) (fun s hs acc n2 K2 hacc hK2 => ?_) n (by decide) ?_
    · simp at hs
      simp -implicitDefEqProofs -dsimp [↓S_law_are_pairs_right, ↓lkK_0, ↓lkK_s, ↓stK_0, ↓stK_s, ↓x_var, ↓x_asg, ↓x_gtN, ↓stSK_c, ↓stSK_n, ↓x_par, ↓wpK_n, ↓wpK_c, ↓x_lcz, ↓x_lc2z, ↓x_lc2T, ↓x_app, ↓x_ext, ↓x_setI, ↓x_idxV, ↓x_lenV, ↓x_dget, ↓x_din, ↓x_dput, ↓atK_0, ↓atK_1, ↓atK_2, ↓atK_3, ↓atK_m1, ↓atK_m2, ↓atK_m3, ↓atK_m4, ↓x_idxl, ↓x_idxt, ↓x_idxs, ↓x_ret, ↓x_retN, ↓x_seq, ↓x_sif, ↓x_snil, ↓x_exp, ↓x_nev, ↓x_brk, ↓x_cnt, ↓x_sfor, ↓x_moNil, ↓x_moCons, ↓x_asgT, ↓x_gtT, ↓x_gtCons, ↓x_gtNil, ↓x_retV, ↓x_mov, ↓x_c, ↓x_bin, ↓x_un, ↓x_and, ↓x_or, ↓x_not, ↓x_ifE, ↓x_chain, ↓x_cb, ↓x_anil, ↓x_cons, ↓x_star, ↓x_tup, ↓x_lst, ↓x_dic0, ↓x_call, ↓x_callK, ↓x_yes, ↓x_toD, ↓x_toDo, ↓x_toB, ↓x_wT, ↓x_wF, ↓x_wD, ↓x_wN, ↓x_sub, ↓x_mul, ↓x_fdv, ↓x_mod, ↓x_pow, ↓x_lt, ↓x_le, ↓x_gt, ↓x_ge, ↓x_addi, ↓x_adds, ↓x_addt, ↓x_addl, ↓x_eqi, ↓x_nei, ↓x_eqs, ↓x_nes, ↓x_int, ↓x_nit, ↓x_inl, ↓x_nil, ↓x_isN, ↓x_notN, ↓x_neg, ↓x_lens, ↓x_lent, ↓x_lenl, ↓x_abs, ↓x_inti, ↓x_intb, ↓x_max, ↓x_min, ↓x_tofl, ↓x_toft, ↓x_lofl, ↓x_loft, ↓x_iseq, ↓x_sqt, ↓x_sql, ↓x_turn, ↓x_lstR1, ↓x_rg1, ↓x_rg2, ↓x_rgK, ↓x_rgK1, ↓x_rgK2, ↓x_isi_non_int, ↓x_isi_non_bool, ↓x_isi_non_str, ↓x_isi_non_tuple, ↓x_isi_non_list, ↓x_isi_bl_int, ↓x_isi_bl_bool, ↓x_isi_bl_str, ↓x_isi_bl_tuple, ↓x_isi_bl_list, ↓x_isi_int_int, ↓x_isi_int_bool, ↓x_isi_int_str, ↓x_isi_int_tuple, ↓x_isi_int_list, ↓x_isi_str_int, ↓x_isi_str_bool, ↓x_isi_str_str, ↓x_isi_str_tuple, ↓x_isi_str_list, ↓x_isi_tup_int, ↓x_isi_tup_bool, ↓x_isi_tup_str, ↓x_isi_tup_tuple, ↓x_isi_tup_list, ↓x_isi_lst_int, ↓x_isi_lst_bool, ↓x_isi_lst_str, ↓x_isi_lst_tuple, ↓x_isi_lst_list, ↓x_all, ↓x_any, ↓x_sum, ↓x_bln, ↓x_blc, ↓x_itn, ↓x_itc, x_wG, tyD, ↓x_pot0, ↓x_pot1, ↓x_pot2, ↓x_pset0, ↓x_pset2, ↓x_vK, ↓x_cutnn, ↓x_cutns, ↓x_cutsn, ↓x_cutl, ↓x_cutt, ↓x_kyi, ↓x_kys, ↓x_ops, ↓x_kin, ↓x_kidx, ↓x_bm, ↓x_kindl, ↓x_kinds, ↓x_eqb, ↓x_neb, KD_MOST_MOTION, K_QUARTERS, ↓x_bx]
      exact ⟨hs, hacc, hK2⟩
    simp -implicitDefEqProofs -dsimp [↓lkK_0, ↓lkK_s, ↓stK_0, ↓stK_s, ↓x_var, ↓x_asg, ↓x_gtN, ↓stSK_c, ↓stSK_n, ↓x_par, ↓wpK_n, ↓wpK_c, ↓x_lcz, ↓x_lc2z, ↓x_lc2T, ↓x_app, ↓x_ext, ↓x_setI, ↓x_idxV, ↓x_lenV, ↓x_dget, ↓x_din, ↓x_dput, ↓atK_0, ↓atK_1, ↓atK_2, ↓atK_3, ↓atK_m1, ↓atK_m2, ↓atK_m3, ↓atK_m4, ↓x_idxl, ↓x_idxt, ↓x_idxs, ↓x_ret, ↓x_retN, ↓x_seq, ↓x_sif, ↓x_snil, ↓x_exp, ↓x_nev, ↓x_brk, ↓x_cnt, ↓x_sfor, ↓x_moNil, ↓x_moCons, ↓x_asgT, ↓x_gtT, ↓x_gtCons, ↓x_gtNil, ↓x_retV, ↓x_mov, ↓x_c, ↓x_bin, ↓x_un, ↓x_and, ↓x_or, ↓x_not, ↓x_ifE, ↓x_chain, ↓x_cb, ↓x_anil, ↓x_cons, ↓x_star, ↓x_tup, ↓x_lst, ↓x_dic0, ↓x_call, ↓x_callK, ↓x_yes, ↓x_toD, ↓x_toDo, ↓x_toB, ↓x_wT, ↓x_wF, ↓x_wD, ↓x_wN, ↓x_sub, ↓x_mul, ↓x_fdv, ↓x_mod, ↓x_pow, ↓x_lt, ↓x_le, ↓x_gt, ↓x_ge, ↓x_addi, ↓x_adds, ↓x_addt, ↓x_addl, ↓x_eqi, ↓x_nei, ↓x_eqs, ↓x_nes, ↓x_int, ↓x_nit, ↓x_inl, ↓x_nil, ↓x_isN, ↓x_notN, ↓x_neg, ↓x_lens, ↓x_lent, ↓x_lenl, ↓x_abs, ↓x_inti, ↓x_intb, ↓x_max, ↓x_min, ↓x_tofl, ↓x_toft, ↓x_lofl, ↓x_loft, ↓x_iseq, ↓x_sqt, ↓x_sql, ↓x_turn, ↓x_lstR1, ↓x_rg1, ↓x_rg2, ↓x_rgK, ↓x_rgK1, ↓x_rgK2, ↓x_isi_non_int, ↓x_isi_non_bool, ↓x_isi_non_str, ↓x_isi_non_tuple, ↓x_isi_non_list, ↓x_isi_bl_int, ↓x_isi_bl_bool, ↓x_isi_bl_str, ↓x_isi_bl_tuple, ↓x_isi_bl_list, ↓x_isi_int_int, ↓x_isi_int_bool, ↓x_isi_int_str, ↓x_isi_int_tuple, ↓x_isi_int_list, ↓x_isi_str_int, ↓x_isi_str_bool, ↓x_isi_str_str, ↓x_isi_str_tuple, ↓x_isi_str_list, ↓x_isi_tup_int, ↓x_isi_tup_bool, ↓x_isi_tup_str, ↓x_isi_tup_tuple, ↓x_isi_tup_list, ↓x_isi_lst_int, ↓x_isi_lst_bool, ↓x_isi_lst_str, ↓x_isi_lst_tuple, ↓x_isi_lst_list, ↓x_all, ↓x_any, ↓x_sum, ↓x_bln, ↓x_blc, ↓x_itn, ↓x_itc, x_wG, tyD, ↓x_pot0, ↓x_pot1, ↓x_pot2, ↓x_pset0, ↓x_pset2, ↓x_vK, ↓x_cutnn, ↓x_cutns, ↓x_cutsn, ↓x_cutl, ↓x_cutt, ↓x_kyi, ↓x_kys, ↓x_ops, ↓x_kin, ↓x_kidx, ↓x_bm, ↓x_kindl, ↓x_kinds, ↓x_eqb, ↓x_neb, KD_MOST_MOTION, K_QUARTERS, ↓x_bx]
    refine lcL_ind (fun es acc m => ∃ k : Nat, acc = (List.range k).map (fun _ => D.bl true) ∧ k + es.length = 7 ∧ (∀ e ∈ es, ∃ i : Int, e = .int i) ∧ n ≤ m ∧ m + 10 * es.length ≤ n + 70) ?_ ?_ _ _ _ ⟨0, rfl, rfl, fun e he => ?_, by omega, by simp [rngD]⟩
    · rintro acc m ⟨k, rfl, hk, _, h1, h2⟩
      simp -implicitDefEqProofs only [↓x_bx, ↓x_toDo, ↓x_toD, ↓x_anil, ↓x_cons, ↓x_cb, ↓x_all]
      rw [blK_of (fun _ => true)]
      rw [show ((List.range k).map fun _ => true).all id = true by simp]
      exact hR m h1 (by simp at h2; omega)
    · rintro e es acc m K hK ⟨k, rfl, hk, he, h1, h2⟩
      obtain ⟨i, rfl⟩ := he e List.mem_cons_self
      rw [List.length_cons] at hk h2
      have hs : (1 + (if 1 < i then (1 : Int) else 0) = 1 ∨ 1 + (if 1 < i then (1 : Int) else 0) = 2) := by split <;> simp
      simp -implicitDefEqProofs -dsimp [↓S_law_is_led_right, ↓lkK_0, ↓lkK_s, ↓stK_0, ↓stK_s, ↓x_var, ↓x_asg, ↓x_gtN, ↓stSK_c, ↓stSK_n, ↓x_par, ↓wpK_n, ↓wpK_c, ↓x_lcz, ↓x_lc2z, ↓x_lc2T, ↓x_app, ↓x_ext, ↓x_setI, ↓x_idxV, ↓x_lenV, ↓x_dget, ↓x_din, ↓x_dput, ↓atK_0, ↓atK_1, ↓atK_2, ↓atK_3, ↓atK_m1, ↓atK_m2, ↓atK_m3, ↓atK_m4, ↓x_idxl, ↓x_idxt, ↓x_idxs, ↓x_ret, ↓x_retN, ↓x_seq, ↓x_sif, ↓x_snil, ↓x_exp, ↓x_nev, ↓x_brk, ↓x_cnt, ↓x_sfor, ↓x_moNil, ↓x_moCons, ↓x_asgT, ↓x_gtT, ↓x_gtCons, ↓x_gtNil, ↓x_retV, ↓x_mov, ↓x_c, ↓x_bin, ↓x_un, ↓x_and, ↓x_or, ↓x_not, ↓x_ifE, ↓x_chain, ↓x_cb, ↓x_anil, ↓x_cons, ↓x_star, ↓x_tup, ↓x_lst, ↓x_dic0, ↓x_call, ↓x_callK, ↓x_yes, ↓x_toD, ↓x_toDo, ↓x_toB, ↓x_wT, ↓x_wF, ↓x_wD, ↓x_wN, ↓x_sub, ↓x_mul, ↓x_fdv, ↓x_mod, ↓x_pow, ↓x_lt, ↓x_le, ↓x_gt, ↓x_ge, ↓x_addi, ↓x_adds, ↓x_addt, ↓x_addl, ↓x_eqi, ↓x_nei, ↓x_eqs, ↓x_nes, ↓x_int, ↓x_nit, ↓x_inl, ↓x_nil, ↓x_isN, ↓x_notN, ↓x_neg, ↓x_lens, ↓x_lent, ↓x_lenl, ↓x_abs, ↓x_inti, ↓x_intb, ↓x_max, ↓x_min, ↓x_tofl, ↓x_toft, ↓x_lofl, ↓x_loft, ↓x_iseq, ↓x_sqt, ↓x_sql, ↓x_turn, ↓x_lstR1, ↓x_rg1, ↓x_rg2, ↓x_rgK, ↓x_rgK1, ↓x_rgK2, ↓x_isi_non_int, ↓x_isi_non_bool, ↓x_isi_non_str, ↓x_isi_non_tuple, ↓x_isi_non_list, ↓x_isi_bl_int, ↓x_isi_bl_bool, ↓x_isi_bl_str, ↓x_isi_bl_tuple, ↓x_isi_bl_list, ↓x_isi_int_int, ↓x_isi_int_bool, ↓x_isi_int_str, ↓x_isi_int_tuple, ↓x_isi_int_list, ↓x_isi_str_int, ↓x_isi_str_bool, ↓x_isi_str_str, ↓x_isi_str_tuple, ↓x_isi_str_list, ↓x_isi_tup_int, ↓x_isi_tup_bool, ↓x_isi_tup_str, ↓x_isi_tup_tuple, ↓x_isi_tup_list, ↓x_isi_lst_int, ↓x_isi_lst_bool, ↓x_isi_lst_str, ↓x_isi_lst_tuple, ↓x_isi_lst_list, ↓x_all, ↓x_any, ↓x_sum, ↓x_bln, ↓x_blc, ↓x_itn, ↓x_itc, x_wG, tyD, ↓x_pot0, ↓x_pot1, ↓x_pot2, ↓x_pset0, ↓x_pset2, ↓x_vK, ↓x_cutnn, ↓x_cutns, ↓x_cutsn, ↓x_cutl, ↓x_cutt, ↓x_kyi, ↓x_kys, ↓x_ops, ↓x_kin, ↓x_kidx, ↓x_bm, ↓x_kindl, ↓x_kinds, ↓x_eqb, ↓x_neb, KD_MOST_MOTION, K_QUARTERS, ↓x_bx]
      refine ⟨by split <;> simp, by omega, fun n' a b => ⟨by omega, hK _ _ ⟨k + 1, ?_, by omega, fun e h => he e (List.mem_cons_of_mem _ h), by omega, by omega⟩⟩⟩
      rw [List.range_succ, List.map_append]; rfl
    · obtain ⟨i, _, rfl⟩ := List.mem_map.mp he
      exact ⟨_, rfl⟩
  · exact h.elim

def S_law : SpD := fun ds n R _ => ∃ ns : List Int, ds = [.lst (ns.map D.int)] ∧ n = 0 ∧ ∀ n', R (.dat (.bl true)) n'

def m_law : MS := sRet (mCB gAll (aCons (mLc (iSeq (mCall S_law_cells (aCons (mVar 0) (aCons (mC (.int 2)) (aNil))))) (gtN 1) (mYes) (mCall S_law_right (aCons (mCall S_law_pot (aCons (mVar 0) (aCons (mVar 1) (aNil)))) (aNil))) [1]) (aNil)))
theorem sat_law : ∀ ds n R RX, S_law ds n R RX → fnM 1 2 m_law ds n R fun _ _ _ => False := by
  rintro _ n R RX ⟨ns, rfl, rfl, hR⟩
  refine ⟨rfl, ?_⟩
  simp only [startD, List.map_cons, List.map_nil, List.length_cons, List.length_nil, Nat.reduceAdd, Nat.reduceSub, List.replicate_succ, List.replicate_zero, List.cons_append, List.nil_append]; simp -implicitDefEqProofs [↓m_law, ↓S_law_cells, ↓lkK_0, ↓lkK_s, ↓stK_0, ↓stK_s, ↓x_var, ↓x_asg, ↓x_gtN, ↓stSK_c, ↓stSK_n, ↓x_par, ↓wpK_n, ↓wpK_c, ↓x_lc, ↓x_lc2, ↓x_lc2T, ↓x_app, ↓x_ext, ↓x_setI, ↓x_idxV, ↓x_lenV, ↓x_dget, ↓x_din, ↓x_dput, ↓atK_0, ↓atK_1, ↓atK_2, ↓atK_3, ↓atK_m1, ↓atK_m2, ↓atK_m3, ↓atK_m4, ↓x_idxl, ↓x_idxt, ↓x_idxs, ↓x_ret, ↓x_retN, ↓x_seq, ↓x_sif, ↓x_snil, ↓x_exp, ↓x_nev, ↓x_brk, ↓x_cnt, ↓x_sfor, ↓x_moNil, ↓x_moCons, ↓x_asgT, ↓x_gtT, ↓x_gtCons, ↓x_gtNil, ↓x_retV, ↓x_mov, ↓x_c, ↓x_bin, ↓x_un, ↓x_and, ↓x_or, ↓x_not, ↓x_ifE, ↓x_chain, ↓x_cb, ↓x_anil, ↓x_cons, ↓x_star, ↓x_tup, ↓x_lst, ↓x_dic0, ↓x_call, ↓x_callK, ↓x_yes, ↓x_toD, ↓x_toDo, ↓x_toB, ↓x_wT, ↓x_wF, ↓x_wD, ↓x_wN, ↓x_sub, ↓x_mul, ↓x_fdv, ↓x_mod, ↓x_pow, ↓x_lt, ↓x_le, ↓x_gt, ↓x_ge, ↓x_addi, ↓x_adds, ↓x_addt, ↓x_addl, ↓x_eqi, ↓x_nei, ↓x_eqs, ↓x_nes, ↓x_int, ↓x_nit, ↓x_inl, ↓x_nil, ↓x_isN, ↓x_notN, ↓x_neg, ↓x_lens, ↓x_lent, ↓x_lenl, ↓x_abs, ↓x_inti, ↓x_intb, ↓x_max, ↓x_min, ↓x_tofl, ↓x_toft, ↓x_lofl, ↓x_loft, ↓x_iseq, ↓x_sqt, ↓x_sql, ↓x_turn, ↓x_lstR1, ↓x_rg1, ↓x_rg2, ↓x_rgK, ↓x_rgK1, ↓x_rgK2, ↓x_isi_non_int, ↓x_isi_non_bool, ↓x_isi_non_str, ↓x_isi_non_tuple, ↓x_isi_non_list, ↓x_isi_bl_int, ↓x_isi_bl_bool, ↓x_isi_bl_str, ↓x_isi_bl_tuple, ↓x_isi_bl_list, ↓x_isi_int_int, ↓x_isi_int_bool, ↓x_isi_int_str, ↓x_isi_int_tuple, ↓x_isi_int_list, ↓x_isi_str_int, ↓x_isi_str_bool, ↓x_isi_str_str, ↓x_isi_str_tuple, ↓x_isi_str_list, ↓x_isi_tup_int, ↓x_isi_tup_bool, ↓x_isi_tup_str, ↓x_isi_tup_tuple, ↓x_isi_tup_list, ↓x_isi_lst_int, ↓x_isi_lst_bool, ↓x_isi_lst_str, ↓x_isi_lst_tuple, ↓x_isi_lst_list, ↓x_all, ↓x_any, ↓x_sum, ↓x_bln, ↓x_blc, ↓x_itn, ↓x_itc, x_wG, tyD, ↓x_pot0, ↓x_pot1, ↓x_pot2, ↓x_pset0, ↓x_pset2, ↓x_vK, ↓x_cutnn, ↓x_cutns, ↓x_cutsn, ↓x_cutl, ↓x_cutt, ↓x_kyi, ↓x_kys, ↓x_ops, ↓x_kin, ↓x_kidx, ↓x_bm, ↓x_kindl, ↓x_kinds, ↓x_eqb, ↓x_neb, KD_MOST_MOTION, K_QUARTERS]
  refine ⟨ns, 2, ⟨rfl, rfl⟩, by omega, by omega, fun k k1 k2 => ?_⟩
  refine lcL_ind (fun ds acc m => (∃ j, acc = (List.range j).map (fun _ => D.bl true) ∧ j + ds.length ≤ 100) ∧ (∀ d ∈ ds, ∃ i : Int, d = .int i ∧ 0 ≤ i ∧ i < 1000) ∧ m + 1000 * ds.length ≤ 100000) ?_ ?_ _ _ _ ⟨⟨0, rfl, by simp [rngD]; omega⟩, ?_, by simp [rngD]; omega⟩
  · rintro acc m ⟨⟨j, rfl, _⟩, _, _⟩
    rw [blK_of (fun _ => true)]
    rw [show ((List.range j).map fun _ => true).all id = true by simp]
    exact hR m
  · rintro d ds acc m K hK ⟨⟨j, rfl, hj⟩, hd, hm⟩
    obtain ⟨i, rfl, i0, i1⟩ := hd d List.mem_cons_self
    simp at hj hm
    simp -implicitDefEqProofs [↓S_law_pot, ↓S_law_right, ↓lkK_0, ↓lkK_s, ↓stK_0, ↓stK_s, ↓x_var, ↓x_asg, ↓x_gtN, ↓stSK_c, ↓stSK_n, ↓x_par, ↓wpK_n, ↓wpK_c, ↓x_lc, ↓x_lc2, ↓x_lc2T, ↓x_app, ↓x_ext, ↓x_setI, ↓x_idxV, ↓x_lenV, ↓x_dget, ↓x_din, ↓x_dput, ↓atK_0, ↓atK_1, ↓atK_2, ↓atK_3, ↓atK_m1, ↓atK_m2, ↓atK_m3, ↓atK_m4, ↓x_idxl, ↓x_idxt, ↓x_idxs, ↓x_ret, ↓x_retN, ↓x_seq, ↓x_sif, ↓x_snil, ↓x_exp, ↓x_nev, ↓x_brk, ↓x_cnt, ↓x_sfor, ↓x_moNil, ↓x_moCons, ↓x_asgT, ↓x_gtT, ↓x_gtCons, ↓x_gtNil, ↓x_retV, ↓x_mov, ↓x_c, ↓x_bin, ↓x_un, ↓x_and, ↓x_or, ↓x_not, ↓x_ifE, ↓x_chain, ↓x_cb, ↓x_anil, ↓x_cons, ↓x_star, ↓x_tup, ↓x_lst, ↓x_dic0, ↓x_call, ↓x_callK, ↓x_yes, ↓x_toD, ↓x_toDo, ↓x_toB, ↓x_wT, ↓x_wF, ↓x_wD, ↓x_wN, ↓x_sub, ↓x_mul, ↓x_fdv, ↓x_mod, ↓x_pow, ↓x_lt, ↓x_le, ↓x_gt, ↓x_ge, ↓x_addi, ↓x_adds, ↓x_addt, ↓x_addl, ↓x_eqi, ↓x_nei, ↓x_eqs, ↓x_nes, ↓x_int, ↓x_nit, ↓x_inl, ↓x_nil, ↓x_isN, ↓x_notN, ↓x_neg, ↓x_lens, ↓x_lent, ↓x_lenl, ↓x_abs, ↓x_inti, ↓x_intb, ↓x_max, ↓x_min, ↓x_tofl, ↓x_toft, ↓x_lofl, ↓x_loft, ↓x_iseq, ↓x_sqt, ↓x_sql, ↓x_turn, ↓x_lstR1, ↓x_rg1, ↓x_rg2, ↓x_rgK, ↓x_rgK1, ↓x_rgK2, ↓x_isi_non_int, ↓x_isi_non_bool, ↓x_isi_non_str, ↓x_isi_non_tuple, ↓x_isi_non_list, ↓x_isi_bl_int, ↓x_isi_bl_bool, ↓x_isi_bl_str, ↓x_isi_bl_tuple, ↓x_isi_bl_list, ↓x_isi_int_int, ↓x_isi_int_bool, ↓x_isi_int_str, ↓x_isi_int_tuple, ↓x_isi_int_list, ↓x_isi_str_int, ↓x_isi_str_bool, ↓x_isi_str_str, ↓x_isi_str_tuple, ↓x_isi_str_list, ↓x_isi_tup_int, ↓x_isi_tup_bool, ↓x_isi_tup_str, ↓x_isi_tup_tuple, ↓x_isi_tup_list, ↓x_isi_lst_int, ↓x_isi_lst_bool, ↓x_isi_lst_str, ↓x_isi_lst_tuple, ↓x_isi_lst_list, ↓x_all, ↓x_any, ↓x_sum, ↓x_bln, ↓x_blc, ↓x_itn, ↓x_itc, x_wG, tyD, ↓x_pot0, ↓x_pot1, ↓x_pot2, ↓x_pset0, ↓x_pset2, ↓x_vK, ↓x_cutnn, ↓x_cutns, ↓x_cutsn, ↓x_cutl, ↓x_cutt, ↓x_kyi, ↓x_kys, ↓x_ops, ↓x_kin, ↓x_kidx, ↓x_bm, ↓x_kindl, ↓x_kinds, ↓x_eqb, ↓x_neb, KD_MOST_MOTION, K_QUARTERS]
    refine ⟨⟨ns, rfl⟩, i0, i1, by omega, fun n' n0 n1 => ⟨by omega, hK _ _ ⟨⟨j + 1, ?_, by omega⟩, fun d hd' => hd d (List.mem_cons_of_mem _ hd'), by omega⟩⟩⟩
    rw [List.range_succ, List.map_append]; rfl
  · simp [rngD]; omega

end K02

set_option Elab.async false
set_option linter.all false
set_option maxRecDepth 100000
set_option maxHeartbeats 4000000
namespace K02
open PySem L2 PL
def topS (i : Nat) : Stmt := PySem.Challenge.pw_selfdrawn_k02_whole_motions_one_behind_a.main.body.getD i (.Pass ⟨0, 0, 0, 0⟩)
abbrev s_is_integer : Stmt := topS 9
abbrev s_divisor : Stmt := topS 10
abbrev s_is_fraction : Stmt := topS 11
abbrev s_is_motion : Stmt := topS 12
abbrev s_check_sides : Stmt := topS 13
abbrev s_check_motion : Stmt := topS 14
abbrev s_motions_joined : Stmt := topS 15
abbrev s_cell_moved : Stmt := topS 16
abbrev s_joint_motion : Stmt := topS 17
abbrev s_back_motion : Stmt := topS 18
abbrev s_less_from_one : Stmt := topS 19
abbrev s_is_share_tuple : Stmt := topS 20
abbrev s_point_under : Stmt := topS 21
abbrev s_cell_under : Stmt := topS 22
abbrev s_law_pot : Stmt := topS 24
abbrev s_law_take : Stmt := topS 25
abbrev s_law_of : Stmt := topS 26
abbrev s_law_cells : Stmt := topS 27
abbrev s_law_led : Stmt := topS 28
abbrev s_law_fraction : Stmt := topS 29
abbrev s_law_fractions : Stmt := topS 30
abbrev s_law_probed : Stmt := topS 31
abbrev s_law_are_pairs_right : Stmt := topS 32
abbrev s_law_is_led_right : Stmt := topS 33
abbrev s_law_right : Stmt := topS 34
abbrev s_law : Stmt := topS 35
theorem sc_is_integer : FnScope ["value"] ["value"] (defScope s_is_integer) := ⟨rfl, rfl, rfl, by decide +kernel, rfl, by decide +kernel, by decide +kernel⟩
theorem sc_divisor : FnScope ["one", "other"] ["one", "other"] (defScope s_divisor) := ⟨rfl, rfl, rfl, by decide +kernel, rfl, by decide +kernel, by decide +kernel⟩
theorem sc_is_fraction : FnScope ["value", "one"] ["value"] (defScope s_is_fraction) := ⟨rfl, rfl, rfl, by decide +kernel, rfl, by decide +kernel, by decide +kernel⟩
theorem sc_is_motion : FnScope ["sides", "value"] ["sides", "value"] (defScope s_is_motion) := ⟨rfl, rfl, rfl, by decide +kernel, rfl, by decide +kernel, by decide +kernel⟩
theorem sc_check_sides : FnScope ["sides"] ["sides"] (defScope s_check_sides) := ⟨rfl, rfl, rfl, by decide +kernel, rfl, by decide +kernel, by decide +kernel⟩
theorem sc_check_motion : FnScope ["sides", "motion"] ["sides", "motion"] (defScope s_check_motion) := ⟨rfl, rfl, rfl, by decide +kernel, rfl, by decide +kernel, by decide +kernel⟩
theorem sc_motions_joined : FnScope ["sides", "one", "other", "turns", "is_mirrored"] ["sides", "one", "other"] (defScope s_motions_joined) := ⟨rfl, rfl, rfl, by decide +kernel, rfl, by decide +kernel, by decide +kernel⟩
theorem sc_cell_moved : FnScope ["size", "motion", "cell", "column", "row", "lap"] ["size", "motion", "cell"] (defScope s_cell_moved) := ⟨rfl, rfl, rfl, by decide +kernel, rfl, by decide +kernel, by decide +kernel⟩
theorem sc_joint_motion : FnScope ["sides", "one", "other"] ["sides", "one", "other"] (defScope s_joint_motion) := ⟨rfl, rfl, rfl, by decide +kernel, rfl, by decide +kernel, by decide +kernel⟩
theorem sc_back_motion : FnScope ["sides", "one"] ["sides", "one"] (defScope s_back_motion) := ⟨rfl, rfl, rfl, by decide +kernel, rfl, by decide +kernel, by decide +kernel⟩
theorem sc_less_from_one : FnScope ["share"] ["share"] (defScope s_less_from_one) := ⟨rfl, rfl, rfl, by decide +kernel, rfl, by decide +kernel, by decide +kernel⟩
theorem sc_is_share_tuple : FnScope ["sides", "value", "one", "top", "low"] ["sides", "value"] (defScope s_is_share_tuple) := ⟨rfl, rfl, rfl, by decide +kernel, rfl, by decide +kernel, by decide +kernel⟩
theorem sc_point_under : FnScope ["sides", "motion", "point", "across", "down", "lap"] ["sides", "motion", "point"] (defScope s_point_under) := ⟨rfl, rfl, rfl, by decide +kernel, rfl, by decide +kernel, by decide +kernel⟩
theorem sc_cell_under : FnScope ["sides", "size", "motion", "cell", "at"] ["sides", "size", "motion", "cell"] (defScope s_cell_under) := ⟨rfl, rfl, rfl, by decide +kernel, rfl, by decide +kernel, by decide +kernel⟩
theorem sc_law_pot : FnScope ["script", "place", "cell", "own", "small"] ["script", "place"] (defScope s_law_pot) := ⟨rfl, rfl, rfl, by decide +kernel, rfl, by decide +kernel, by decide +kernel⟩
theorem sc_law_take : FnScope ["pot", "upto", "digit", "prime", "blend"] ["pot", "upto"] (defScope s_law_take) := ⟨rfl, rfl, rfl, by decide +kernel, rfl, by decide +kernel, by decide +kernel⟩
theorem sc_law_of : FnScope ["pot", "some"] ["pot", "some"] (defScope s_law_of) := ⟨rfl, rfl, rfl, by decide +kernel, rfl, by decide +kernel, by decide +kernel⟩
theorem sc_law_cells : FnScope ["script", "most"] ["script", "most"] (defScope s_law_cells) := ⟨rfl, rfl, rfl, by decide +kernel, rfl, by decide +kernel, by decide +kernel⟩
theorem sc_law_led : FnScope ["motion", "low", "tops", "across", "down", "lap"] ["motion", "low", "tops"] (defScope s_law_led) := ⟨rfl, rfl, rfl, by decide +kernel, rfl, by decide +kernel, by decide +kernel⟩
theorem sc_law_fraction : FnScope ["top", "low", "one", "other"] ["top", "low"] (defScope s_law_fraction) := ⟨rfl, rfl, rfl, by decide +kernel, rfl, by decide +kernel, by decide +kernel⟩
theorem sc_law_fractions : FnScope ["low", "tops", "top"] ["low", "tops"] (defScope s_law_fractions) := ⟨rfl, rfl, rfl, by decide +kernel, rfl, by decide +kernel, by decide +kernel⟩
theorem sc_law_probed : FnScope ["sides", "one", "other", "some", "motion", "tops"] ["sides", "one", "other"] (defScope s_law_probed) := ⟨rfl, rfl, rfl, by decide +kernel, rfl, by decide +kernel, by decide +kernel⟩
theorem sc_law_are_pairs_right : FnScope ["sides", "motions", "one", "due", "other"] ["sides"] (defScope s_law_are_pairs_right) := ⟨rfl, rfl, rfl, by decide +kernel, rfl, by decide +kernel, by decide +kernel⟩
theorem sc_law_is_led_right : FnScope ["pot", "sides", "many", "one", "other", "low", "tops", "point", "far", "both", "size", "cell", "led", "side"] ["pot", "sides"] (defScope s_law_is_led_right) := ⟨rfl, rfl, rfl, by decide +kernel, rfl, by decide +kernel, by decide +kernel⟩
theorem sc_law_right : FnScope ["pot", "sides", "lap"] ["pot"] (defScope s_law_right) := ⟨rfl, rfl, rfl, by decide +kernel, rfl, by decide +kernel, by decide +kernel⟩
theorem sc_law : FnScope ["script", "place"] ["script"] (defScope s_law) := ⟨rfl, rfl, rfl, by decide +kernel, rfl, by decide +kernel, by decide +kernel⟩
structure Tx (K : PySem.W.Frag) (mg : Str → Option Value) (w : World) : Prop where
  n_abs : mg "abs" = none
  n_all : mg "all" = none
  n_bool : mg "bool" = none
  n_int : mg "int" = none
  n_isinstance : mg "isinstance" = none
  n_len : mg "len" = none
  n_list : mg "list" = none
  n_max : mg "max" = none
  n_min : mg "min" = none
  n_range : mg "range" = none
  n_repr : mg "repr" = none
  n_sum : mg "sum" = none
  n_tuple : mg "tuple" = none
  k_MOST_MOTION : GD K mg w "MOST_MOTION" KD_MOST_MOTION
  k_QUARTERS : GC K mg "QUARTERS" K_QUARTERS
section
variable {P : Program} {w : World} {K : PySem.W.Frag} {mg : Str → Option Value} {base : Heap}
theorem fn_is_integer (T : Tx K mg w) {fa : Addr} {fd : FuncData} (F : Def K mg "is_integer" s_is_integer ["value"] fa fd) : FnG P w K mg base CX0 1 fa fd ["value"] (toSp K mg S_is_integer) :=
  def_fn (k := 0) (ms := m_is_integer) F sc_is_integer (fun cdv A outer s H c hr => s_one (s_ret (o_and (o_cb (d_isi c) (by rfl) T.n_isinstance PL.bt_isinstance (a_cons (o_var (pv 0)) (a_cons (o_c (pe_bltn (v := .ty "int") (by rfl) T.n_int PL.bt_int rfl) (fun _ => .ty _)) (a_nil)))) (o_and1 (o_not (o_cb (d_isi c) (by rfl) T.n_isinstance PL.bt_isinstance (a_cons (o_var (pv 0)) (a_cons (o_c (pe_bltn (v := .ty "bool") (by rfl) T.n_bool PL.bt_bool rfl) (fun _ => .ty _)) (a_nil))))))))) sat_is_integer
theorem fn_divisor (T : Tx K mg w) {fa : Addr} {fd : FuncData} (F : Def K mg "divisor" s_divisor ["one", "other"] fa fd) : FnG P w K mg base CX0 1 fa fd ["one", "other"] (toSp K mg S_divisor) :=
  def_fn (k := 0) (ms := m_divisor) F sc_divisor (fun cdv A outer s H c hr => s_cons (s_whl (hp := PassesOwn.never) (t_cmp d_gt (o_var (pv 1)) (o_c pe_int (fun _ => .int _)) (nomark _)) (s_one (s_par2 (ps_par c.calm c.nd (i := 0) (j := 1) rfl rfl (by decide) rfl rfl (mo_cons (o_var (pv 1)) (mo_cons (o_bin d_mod (o_var (pv 0)) (o_var (pv 1))) (mo_nil))) (by rfl))))) (s_one (s_ret (o_var (pv 0))))) sat_divisor
theorem fn_is_fraction (T : Tx K mg w) (h_is_integer : Cal P w K mg base "is_integer" 1 ["value"] S_is_integer) (h_divisor : Cal P w K mg base "divisor" 1 ["one", "other"] S_divisor) {fa : Addr} {fd : FuncData} (F : Def K mg "is_fraction" s_is_fraction ["value"] fa fd) : FnG P w K mg base CX0 2 fa fd ["value"] (toSp K mg S_is_fraction) :=
  def_fn (k := 1) (ms := m_is_fraction) F sc_is_fraction (fun cdv A outer s H c hr => s_cons (s_if ((t_or (t_not (t_val (o_cb (d_isi c) (by rfl) T.n_isinstance PL.bt_isinstance (a_cons (o_var (pv 0)) (a_cons (o_c (pe_bltn (v := .ty "tuple") (by rfl) T.n_tuple PL.bt_tuple rfl) (fun _ => .ty _)) (a_nil)))))) (t_or (t_cmp (d_ne c) (o_cb (d_len c) (by rfl) T.n_len PL.bt_len (a_cons (o_var (pv 0)) (a_nil))) (o_c pe_int (fun _ => .int _)) (nomark _)) (t_or1 (t_not (t_val (o_cb (d_all c) (by rfl) T.n_all PL.bt_all (a_cons (o_lc (ts := [1]) (vs := [1]) (by decide) (pe_lc (own := [("one", 1)]) c.calm c.nd (i_seq c (o_var (pv 0))) (blk_of (N := ["value", "one"]) (sc := defScope s_is_fraction) (own := [("one", 1)]) rfl rfl (by decide +kernel)) (blk_g c fun _ _ _ _ _ c => g_name (pg_name (i := 1) c.nd rfl (Or.inl rfl))) (blk_t c fun _ _ _ _ _ c => ts_nil) (blk_e c fun _ _ _ _ _ c => o_fn c h_is_integer hr (by rfl) (a_cons (o_var (pv 1)) (a_nil))))) (a_nil)))))))).pt) (s_one (s_ret (o_c pe_bl (fun _ => .bl _)))) (s_nil)) (s_one (s_ret (o_and (o_cmp d_ge (o_idx c (o_var (pv 0)) (o_c pe_int (fun _ => .int _)) (fun _ _ => rfl)) (o_c pe_int (fun _ => .int _)) (nomark _)) (o_and1 (o_cmp (d_eq c) (o_fn c h_divisor hr (by rfl) (a_cons (o_cb d_abs (by rfl) T.n_abs PL.bt_abs (a_cons (o_idx c (o_var (pv 0)) (o_c pe_int (fun _ => .int _)) (fun _ _ => rfl)) (a_nil))) (a_cons (o_idx c (o_var (pv 0)) (o_c pe_int (fun _ => .int _)) (fun _ _ => rfl)) (a_nil)))) (o_c pe_int (fun _ => .int _)) (nomark _))))))) sat_is_fraction
theorem fn_is_motion (T : Tx K mg w) (h_is_integer : Cal P w K mg base "is_integer" 1 ["value"] S_is_integer) {fa : Addr} {fd : FuncData} (F : Def K mg "is_motion" s_is_motion ["sides", "value"] fa fd) : FnG P w K mg base CX0 2 fa fd ["sides", "value"] (toSp K mg S_is_motion) :=
  def_fn (k := 1) (ms := m_is_motion) F sc_is_motion (fun cdv A outer s H c hr => s_one (s_ret (o_and (o_fn c h_is_integer hr (by rfl) (a_cons (o_var (pv 1)) (a_nil))) (o_and1 (o_chain d_le d_le (o_c pe_int (fun _ => .int _)) (o_var (pv 1)) (o_kidx c (by rfl) T.k_MOST_MOTION (o_var (pv 0)) (fun _ _ => rfl))))))) sat_is_motion
theorem fn_check_sides (T : Tx K mg w) (h_is_integer : Cal P w K mg base "is_integer" 1 ["value"] S_is_integer) {fa : Addr} {fd : FuncData} (F : Def K mg "check_sides" s_check_sides ["sides"] fa fd) : FnG P w K mg base CX0 2 fa fd ["sides"] (toSp K mg S_check_sides) :=
  def_fn (k := 1) (ms := m_check_sides) F sc_check_sides (fun cdv A outer s H c hr => s_one (s_if ((t_or (t_not (t_val (o_fn c h_is_integer hr (by rfl) (a_cons (o_var (pv 0)) (a_nil))))) (t_or1 (t_kni c (by rfl) T.k_MOST_MOTION (o_var (pv 0))))).pt) (s_nevs) (s_nil))) sat_check_sides
theorem fn_check_motion (T : Tx K mg w) (h_is_motion : Cal P w K mg base "is_motion" 2 ["sides", "value"] S_is_motion) {fa : Addr} {fd : FuncData} (F : Def K mg "check_motion" s_check_motion ["sides", "motion"] fa fd) : FnG P w K mg base CX0 3 fa fd ["sides", "motion"] (toSp K mg S_check_motion) :=
  def_fn (k := 2) (ms := m_check_motion) F sc_check_motion (fun cdv A outer s H c hr => s_one (s_if (t_not (t_val (o_fn c h_is_motion hr (by rfl) (a_cons (o_var (pv 0)) (a_cons (o_var (pv 1)) (a_nil)))))) (s_nevs) (s_nil))) sat_check_motion
theorem fn_motions_joined (T : Tx K mg w) {fa : Addr} {fd : FuncData} (F : Def K mg "motions_joined" s_motions_joined ["sides", "one", "other"] fa fd) : FnG P w K mg base CX0 1 fa fd ["sides", "one", "other"] (toSp K mg S_motions_joined) :=
  def_fn (k := 0) (ms := m_motions_joined) F sc_motions_joined (fun cdv A outer s H c hr => s_cons (s_if (t_cmp (d_eq c) (o_var (pv 0)) (o_c pe_int (fun _ => .int _)) (nomark _)) (s_one (s_ret (o_bin d_mod (o_bin (d_add c) (o_var (pv 1)) (o_var (pv 2))) (o_c pe_int (fun _ => .int _))))) (s_nil)) (s_cons (s_asg (o_bin d_mod (o_var (pv 1)) (o_glob c (by rfl) T.k_QUARTERS)) (pg_name (i := 3) c.nd rfl (Or.inl rfl))) (s_cons (s_if (t_cmp d_ge (o_var (pv 2)) (o_glob c (by rfl) T.k_QUARTERS) (nomark _)) (s_one (s_asg (o_un d_neg (o_var (pv 3))) (pg_name (i := 3) c.nd rfl (Or.inl rfl)))) (s_nil)) (s_cons (s_asg (o_cmp (d_ne c) (o_cmp d_ge (o_var (pv 1)) (o_glob c (by rfl) T.k_QUARTERS) (nomark _)) (o_cmp d_ge (o_var (pv 2)) (o_glob c (by rfl) T.k_QUARTERS) (nomark _)) (nomark _)) (pg_name (i := 4) c.nd rfl (Or.inl rfl))) (s_one (s_ret (o_bin (d_add c) (o_bin d_mod (o_bin (d_add c) (o_var (pv 3)) (o_var (pv 2))) (o_glob c (by rfl) T.k_QUARTERS)) (o_ifE (t_val (o_var (pv 4))) (o_glob c (by rfl) T.k_QUARTERS) (o_c pe_int (fun _ => .int _)))))))))) sat_motions_joined
theorem fn_cell_moved (T : Tx K mg w) {fa : Addr} {fd : FuncData} (F : Def K mg "cell_moved" s_cell_moved ["size", "motion", "cell"] fa fd) : FnG P w K mg base CX0 1 fa fd ["size", "motion", "cell"] (toSp K mg S_cell_moved) :=
  def_fn (k := 0) (ms := m_cell_moved) F sc_cell_moved (fun cdv A outer s H c hr => s_cons (s_if (t_cmp (d_eq c) (o_cb (d_len c) (by rfl) T.n_len PL.bt_len (a_cons (o_var (pv 2)) (a_nil))) (o_c pe_int (fun _ => .int _)) (nomark _)) (s_one (s_ret (o_ifE (t_cmp (d_eq c) (o_var (pv 1)) (o_c pe_int (fun _ => .int _)) (nomark _)) (o_var (pv 2)) (o_tup (a_cons (o_bin d_sub (o_bin d_sub (o_var (pv 0)) (o_c pe_int (fun _ => .int _))) (o_idx c (o_var (pv 2)) (o_c pe_int (fun _ => .int _)) (fun _ _ => rfl))) (a_nil)))))) (s_nil)) (s_cons (s_asgT (ts := [3, 4]) (o_var (pv 2)) (g_tup c (g_cons (g_name (pg_name (i := 3) c.nd rfl (Or.inl rfl))) (g_cons (g_name (pg_name (i := 4) c.nd rfl (Or.inl rfl))) (g_nil))))) (s_cons (s_if (t_cmp d_ge (o_var (pv 1)) (o_glob c (by rfl) T.k_QUARTERS) (nomark _)) (s_one (s_asg (o_bin d_sub (o_bin d_sub (o_var (pv 0)) (o_c pe_int (fun _ => .int _))) (o_var (pv 3))) (pg_name (i := 3) c.nd rfl (Or.inl rfl)))) (s_nil)) (s_cons (s_for (hp := PassesOwn.never) (ts := [5]) c (i_rg1 (pi_range1 (by rfl) T.n_range (a_cons (o_bin d_mod (o_var (pv 1)) (o_glob c (by rfl) T.k_QUARTERS)) (a_nil)))) (g_name (pg_name (i := 5) c.nd rfl (Or.inl rfl))) (s_one (s_par2 (ps_par c.calm c.nd (i := 3) (j := 4) rfl rfl (by decide) rfl rfl (mo_cons (o_bin d_sub (o_bin d_sub (o_var (pv 0)) (o_c pe_int (fun _ => .int _))) (o_var (pv 4))) (mo_cons (o_var (pv 3)) (mo_nil))) (by rfl))))) (s_one (s_ret (o_tup (a_cons (o_var (pv 3)) (a_cons (o_var (pv 4)) (a_nil)))))))))) sat_cell_moved
theorem fn_joint_motion (T : Tx K mg w) (h_check_sides : Cal P w K mg base "check_sides" 2 ["sides"] S_check_sides) (h_check_motion : Cal P w K mg base "check_motion" 3 ["sides", "motion"] S_check_motion) (h_motions_joined : Cal P w K mg base "motions_joined" 1 ["sides", "one", "other"] S_motions_joined) {fa : Addr} {fd : FuncData} (F : Def K mg "joint_motion" s_joint_motion ["sides", "one", "other"] fa fd) : FnG P w K mg base CX0 4 fa fd ["sides", "one", "other"] (toSp K mg S_joint_motion) :=
  def_fn (k := 3) (ms := m_joint_motion) F sc_joint_motion (fun cdv A outer s H c hr => s_cons (s_exp (o_fn c h_check_sides hr (by rfl) (a_cons (o_var (pv 0)) (a_nil)))) (s_cons (s_exp (o_fn c h_check_motion hr (by rfl) (a_cons (o_var (pv 0)) (a_cons (o_var (pv 1)) (a_nil))))) (s_cons (s_exp (o_fn c h_check_motion hr (by rfl) (a_cons (o_var (pv 0)) (a_cons (o_var (pv 2)) (a_nil))))) (s_one (s_ret (o_fn c h_motions_joined hr (by rfl) (a_cons (o_var (pv 0)) (a_cons (o_var (pv 1)) (a_cons (o_var (pv 2)) (a_nil)))))))))) sat_joint_motion
theorem fn_back_motion (T : Tx K mg w) (h_check_sides : Cal P w K mg base "check_sides" 2 ["sides"] S_check_sides) (h_check_motion : Cal P w K mg base "check_motion" 3 ["sides", "motion"] S_check_motion) {fa : Addr} {fd : FuncData} (F : Def K mg "back_motion" s_back_motion ["sides", "one"] fa fd) : FnG P w K mg base CX0 4 fa fd ["sides", "one"] (toSp K mg S_back_motion) :=
  def_fn (k := 3) (ms := m_back_motion) F sc_back_motion (fun cdv A outer s H c hr => s_cons (s_exp (o_fn c h_check_sides hr (by rfl) (a_cons (o_var (pv 0)) (a_nil)))) (s_cons (s_exp (o_fn c h_check_motion hr (by rfl) (a_cons (o_var (pv 0)) (a_cons (o_var (pv 1)) (a_nil))))) (s_one (s_ret (o_ifE ((t_and (t_cmp (d_eq c) (o_var (pv 0)) (o_c pe_int (fun _ => .int _)) (nomark _)) (t_and1 (t_cmp d_lt (o_var (pv 1)) (o_glob c (by rfl) T.k_QUARTERS) (nomark _)))).pt) (o_bin d_mod (o_bin d_sub (o_glob c (by rfl) T.k_QUARTERS) (o_var (pv 1))) (o_glob c (by rfl) T.k_QUARTERS)) (o_var (pv 1))))))) sat_back_motion
theorem fn_less_from_one (T : Tx K mg w) {fa : Addr} {fd : FuncData} (F : Def K mg "less_from_one" s_less_from_one ["share"] fa fd) : FnG P w K mg base CX0 1 fa fd ["share"] (toSp K mg S_less_from_one) :=
  def_fn (k := 0) (ms := m_less_from_one) F sc_less_from_one (fun cdv A outer s H c hr => s_one (s_ret (o_tup (a_cons (o_bin d_sub (o_idx c (o_var (pv 0)) (o_c pe_int (fun _ => .int _)) (fun _ _ => rfl)) (o_idx c (o_var (pv 0)) (o_c pe_int (fun _ => .int _)) (fun _ _ => rfl))) (a_cons (o_idx c (o_var (pv 0)) (o_c pe_int (fun _ => .int _)) (fun _ _ => rfl)) (a_nil)))))) sat_less_from_one
theorem fn_is_share_tuple (T : Tx K mg w) (h_is_fraction : Cal P w K mg base "is_fraction" 2 ["value"] S_is_fraction) {fa : Addr} {fd : FuncData} (F : Def K mg "is_share_tuple" s_is_share_tuple ["sides", "value"] fa fd) : FnG P w K mg base CX0 3 fa fd ["sides", "value"] (toSp K mg S_is_share_tuple) :=
  def_fn (k := 2) (ms := m_is_share_tuple) F sc_is_share_tuple (fun cdv A outer s H c hr => s_cons (s_if ((t_or (t_not (t_val (o_cb (d_isi c) (by rfl) T.n_isinstance PL.bt_isinstance (a_cons (o_var (pv 1)) (a_cons (o_c (pe_bltn (v := .ty "tuple") (by rfl) T.n_tuple PL.bt_tuple rfl) (fun _ => .ty _)) (a_nil)))))) (t_or (t_cmp (d_ne c) (o_cb (d_len c) (by rfl) T.n_len PL.bt_len (a_cons (o_var (pv 1)) (a_nil))) (o_var (pv 0)) (nomark _)) (t_or1 (t_not (t_val (o_cb (d_all c) (by rfl) T.n_all PL.bt_all (a_cons (o_lc (ts := [2]) (vs := [2]) (by decide) (pe_lc (own := [("one", 2)]) c.calm c.nd (i_seq c (o_var (pv 1))) (blk_of (N := ["sides", "value", "one", "top", "low"]) (sc := defScope s_is_share_tuple) (own := [("one", 2)]) rfl rfl (by decide +kernel)) (blk_g c fun _ _ _ _ _ c => g_name (pg_name (i := 2) c.nd rfl (Or.inl rfl))) (blk_t c fun _ _ _ _ _ c => ts_nil) (blk_e c fun _ _ _ _ _ c => o_fn c h_is_fraction hr (by rfl) (a_cons (o_var (pv 2)) (a_nil))))) (a_nil)))))))).pt) (s_one (s_ret (o_c pe_bl (fun _ => .bl _)))) (s_nil)) (s_one (s_ret (o_cb (d_all c) (by rfl) T.n_all PL.bt_all (a_cons (o_lc (ts := [3, 4]) (vs := [3, 4]) (by decide) (pe_lc (own := [("top", 3), ("low", 4)]) c.calm c.nd (i_seq c (o_var (pv 1))) (blk_of (N := ["sides", "value", "one", "top", "low"]) (sc := defScope s_is_share_tuple) (own := [("top", 3), ("low", 4)]) rfl rfl (by decide +kernel)) (blk_g c fun _ _ _ _ _ c => g_tup c (g_cons (g_name (pg_name (i := 3) c.nd rfl (Or.inl rfl))) (g_cons (g_name (pg_name (i := 4) c.nd rfl (Or.inl rfl))) (g_nil)))) (blk_t c fun _ _ _ _ _ c => ts_nil) (blk_e c fun _ _ _ _ _ c => o_chain d_le d_le (o_c pe_int (fun _ => .int _)) (o_var (pv 3)) (o_var (pv 4))))) (a_nil)))))) sat_is_share_tuple
theorem fn_point_under (T : Tx K mg w) (h_check_sides : Cal P w K mg base "check_sides" 2 ["sides"] S_check_sides) (h_check_motion : Cal P w K mg base "check_motion" 3 ["sides", "motion"] S_check_motion) (h_is_share_tuple : Cal P w K mg base "is_share_tuple" 3 ["sides", "value"] S_is_share_tuple) (h_less_from_one : Cal P w K mg base "less_from_one" 1 ["share"] S_less_from_one) {fa : Addr} {fd : FuncData} (F : Def K mg "point_under" s_point_under ["sides", "motion", "point"] fa fd) : FnG P w K mg base CX0 4 fa fd ["sides", "motion", "point"] (toSp K mg S_point_under) :=
  def_fn (k := 3) (ms := m_point_under) F sc_point_under (fun cdv A outer s H c hr => s_cons (s_exp (o_fn c h_check_sides hr (by rfl) (a_cons (o_var (pv 0)) (a_nil)))) (s_cons (s_exp (o_fn c h_check_motion hr (by rfl) (a_cons (o_var (pv 0)) (a_cons (o_var (pv 1)) (a_nil))))) (s_cons (s_if (t_not (t_val (o_fn c h_is_share_tuple hr (by rfl) (a_cons (o_var (pv 0)) (a_cons (o_var (pv 2)) (a_nil)))))) (s_nevs) (s_nil)) (s_cons (s_if (t_cmp (d_eq c) (o_var (pv 0)) (o_c pe_int (fun _ => .int _)) (nomark _)) (s_one (s_ret (o_ifE (t_cmp (d_eq c) (o_var (pv 1)) (o_c pe_int (fun _ => .int _)) (nomark _)) (o_var (pv 2)) (o_tup (a_cons (o_fn c h_less_from_one hr (by rfl) (a_cons (o_idx c (o_var (pv 2)) (o_c pe_int (fun _ => .int _)) (fun _ _ => rfl)) (a_nil))) (a_nil)))))) (s_nil)) (s_cons (s_asgT (ts := [3, 4]) (o_var (pv 2)) (g_tup c (g_cons (g_name (pg_name (i := 3) c.nd rfl (Or.inl rfl))) (g_cons (g_name (pg_name (i := 4) c.nd rfl (Or.inl rfl))) (g_nil))))) (s_cons (s_if (t_cmp d_ge (o_var (pv 1)) (o_glob c (by rfl) T.k_QUARTERS) (nomark _)) (s_one (s_asg (o_fn c h_less_from_one hr (by rfl) (a_cons (o_var (pv 3)) (a_nil))) (pg_name (i := 3) c.nd rfl (Or.inl rfl)))) (s_nil)) (s_cons (s_for (hp := PassesOwn.never) (ts := [5]) c (i_rg1 (pi_range1 (by rfl) T.n_range (a_cons (o_bin d_mod (o_var (pv 1)) (o_glob c (by rfl) T.k_QUARTERS)) (a_nil)))) (g_name (pg_name (i := 5) c.nd rfl (Or.inl rfl))) (s_one (s_par2 (ps_par c.calm c.nd (i := 3) (j := 4) rfl rfl (by decide) rfl rfl (mo_cons (o_fn c h_less_from_one hr (by rfl) (a_cons (o_var (pv 4)) (a_nil))) (mo_cons (o_var (pv 3)) (mo_nil))) (by rfl))))) (s_one (s_ret (o_tup (a_cons (o_var (pv 3)) (a_cons (o_var (pv 4)) (a_nil))))))))))))) sat_point_under
theorem fn_cell_under (T : Tx K mg w) (h_check_sides : Cal P w K mg base "check_sides" 2 ["sides"] S_check_sides) (h_is_integer : Cal P w K mg base "is_integer" 1 ["value"] S_is_integer) (h_check_motion : Cal P w K mg base "check_motion" 3 ["sides", "motion"] S_check_motion) (h_cell_moved : Cal P w K mg base "cell_moved" 1 ["size", "motion", "cell"] S_cell_moved) {fa : Addr} {fd : FuncData} (F : Def K mg "cell_under" s_cell_under ["sides", "size", "motion", "cell"] fa fd) : FnG P w K mg base CX0 4 fa fd ["sides", "size", "motion", "cell"] (toSp K mg S_cell_under) :=
  def_fn (k := 3) (ms := m_cell_under) F sc_cell_under (fun cdv A outer s H c hr => s_cons (s_exp (o_fn c h_check_sides hr (by rfl) (a_cons (o_var (pv 0)) (a_nil)))) (s_cons (s_if ((t_or (t_not (t_val (o_fn c h_is_integer hr (by rfl) (a_cons (o_var (pv 1)) (a_nil))))) (t_or1 (t_cmp d_lt (o_var (pv 1)) (o_c pe_int (fun _ => .int _)) (nomark _)))).pt) (s_nevs) (s_nil)) (s_cons (s_exp (o_fn c h_check_motion hr (by rfl) (a_cons (o_var (pv 0)) (a_cons (o_var (pv 2)) (a_nil))))) (s_cons (s_if ((t_or (t_not (t_val (o_cb (d_isi c) (by rfl) T.n_isinstance PL.bt_isinstance (a_cons (o_var (pv 3)) (a_cons (o_c (pe_bltn (v := .ty "tuple") (by rfl) T.n_tuple PL.bt_tuple rfl) (fun _ => .ty _)) (a_nil)))))) (t_or (t_cmp (d_ne c) (o_cb (d_len c) (by rfl) T.n_len PL.bt_len (a_cons (o_var (pv 3)) (a_nil))) (o_var (pv 0)) (nomark _)) (t_or1 (t_not (t_val (o_cb (d_all c) (by rfl) T.n_all PL.bt_all (a_cons (o_lc (ts := [4]) (vs := [4]) (by decide) (pe_lc (own := [("at", 4)]) c.calm c.nd (i_seq c (o_var (pv 3))) (blk_of (N := ["sides", "size", "motion", "cell", "at"]) (sc := defScope s_cell_under) (own := [("at", 4)]) rfl rfl (by decide +kernel)) (blk_g c fun _ _ _ _ _ c => g_name (pg_name (i := 4) c.nd rfl (Or.inl rfl))) (blk_t c fun _ _ _ _ _ c => ts_nil) (blk_e c fun _ _ _ _ _ c => o_fn c h_is_integer hr (by rfl) (a_cons (o_var (pv 4)) (a_nil))))) (a_nil)))))))).pt) (s_nevs) (s_nil)) (s_cons (s_if (t_not (t_val (o_cb (d_all c) (by rfl) T.n_all PL.bt_all (a_cons (o_lc (ts := [4]) (vs := [4]) (by decide) (pe_lc (own := [("at", 4)]) c.calm c.nd (i_seq c (o_var (pv 3))) (blk_of (N := ["sides", "size", "motion", "cell", "at"]) (sc := defScope s_cell_under) (own := [("at", 4)]) rfl rfl (by decide +kernel)) (blk_g c fun _ _ _ _ _ c => g_name (pg_name (i := 4) c.nd rfl (Or.inl rfl))) (blk_t c fun _ _ _ _ _ c => ts_nil) (blk_e c fun _ _ _ _ _ c => o_chain d_le d_lt (o_c pe_int (fun _ => .int _)) (o_var (pv 4)) (o_var (pv 1))))) (a_nil))))) (s_nevs) (s_nil)) (s_one (s_ret (o_fn c h_cell_moved hr (by rfl) (a_cons (o_var (pv 1)) (a_cons (o_var (pv 2)) (a_cons (o_var (pv 3)) (a_nil)))))))))))) sat_cell_under
theorem fn_law_pot (T : Tx K mg w) {fa : Addr} {fd : FuncData} (F : Def K mg "_law_pot" s_law_pot ["script", "place"] fa fd) : FnG P w K mg base CX0 1 fa fd ["script", "place"] (toSp K mg fun ds n R _ => fnM 2 5 m_law_pot ds n R fun _ _ _ => False) :=
  def_fn (k := 0) (ms := m_law_pot) F sc_law_pot (fun cdv A outer s H c hr => s_cons (s_asg (o_ifE (t_cmp d_lt (o_var (pv 1)) (o_cb (d_len c) (by rfl) T.n_len PL.bt_len (a_cons (o_var (pv 0)) (a_nil))) (nomark _)) (o_idx c (o_var (pv 0)) (o_var (pv 1)) (fun _ _ => rfl)) (o_bin (d_add c) (o_bin (d_add c) (o_bin d_mod (o_cb (d_sum c) (by rfl) T.n_sum PL.bt_sum (a_cons (o_cut c (o_var (pv 0)) o_none (o_some (o_c pe_int (fun _ => .int _)))) (a_nil))) (o_c pe_int (fun _ => .int _))) (o_bin d_mul (o_c pe_int (fun _ => .int _)) (o_var (pv 1)))) (o_c pe_int (fun _ => .int _)))) (pg_name (i := 2) c.nd rfl (Or.inl rfl))) (s_cons (s_asg (o_bin d_mul (o_bin d_mod (o_cty d_int (by rfl) T.n_int PL.bt_int (a_cons (o_cb d_abs (by rfl) T.n_abs PL.bt_abs (a_cons (o_var (pv 2)) (a_nil))) (a_nil))) (o_bin d_pow (o_bin d_pow (o_c pe_int (fun _ => .int _)) (o_c pe_int (fun _ => .int _))) (o_c pe_int (fun _ => .int _)))) (o_cty d_int (by rfl) T.n_int PL.bt_int (a_cons (o_cmp d_ge (o_cb d_abs (by rfl) T.n_abs PL.bt_abs (a_cons (o_var (pv 2)) (a_nil))) (o_bin d_pow (o_c pe_int (fun _ => .int _)) (o_c pe_int (fun _ => .int _))) (nomark _)) (a_nil)))) (pg_name (i := 3) c.nd rfl (Or.inl rfl))) (s_cons (s_asg (o_bin d_mod (o_cty d_int (by rfl) T.n_int PL.bt_int (a_cons (o_var (pv 2)) (a_nil))) (o_c pe_int (fun _ => .int _))) (pg_name (i := 4) c.nd rfl (Or.inl rfl))) (s_one (s_ret (o_lst (a_cons (o_var (pv 3)) (a_cons (o_bin d_mod (o_cty d_int (by rfl) T.n_int PL.bt_int (a_cons (o_bin (d_add c) (o_bin (d_add c) (o_bin d_mul (o_var (pv 4)) (o_c pe_int (fun _ => .int _))) (o_bin d_mul (o_bin d_mul (o_c pe_int (fun _ => .int _)) (o_var (pv 1))) (o_var (pv 1)))) (o_c pe_int (fun _ => .int _))) (a_nil))) (o_c pe_int (fun _ => .int _))) (a_cons (o_c pe_int (fun _ => .int _)) (a_nil)))))))))) fun _ _ _ _ h => h
theorem fn_law_take (T : Tx K mg w) {fa : Addr} {fd : FuncData} (F : Def K mg "_law_take" s_law_take ["pot", "upto"] fa fd) : FnG P w K mg base CX0 1 fa fd ["pot", "upto"] (toSp K mg S_law_take) :=
  def_fn (k := 0) (ms := m_law_take) F sc_law_take (fun cdv A outer s H c hr => s_cons (s_if (t_cmp d_gt (o_potIdx c (pv 0) (o_c pe_int (fun _ => .int _)) (fun _ _ => rfl)) (o_c pe_int (fun _ => .int _)) (nomark _)) (s_cons (s_asg (o_bin d_mod (o_cty d_int (by rfl) T.n_int PL.bt_int (a_cons (o_potIdx c (pv 0) (o_c pe_int (fun _ => .int _)) (fun _ _ => rfl)) (a_nil))) (o_var (pv 1))) (pg_name (i := 2) c.nd rfl (Or.inl rfl))) (s_cons (s_potSet (ps_asg (o_bin d_fdv (o_potIdx c (pv 0) (o_c pe_int (fun _ => .int _)) (fun _ _ => rfl)) (o_var (pv 1))) (pg_sub (pv 0) (o_c pe_int (fun _ => .int _)) set_list))) (s_one (s_ret (o_var (pv 2)))))) (s_nil)) (s_cons (s_potSet (ps_asg (o_bin (d_add c) (o_potIdx c (pv 0) (o_c pe_int (fun _ => .int _)) (fun _ _ => rfl)) (o_c pe_int (fun _ => .int _))) (pg_sub (pv 0) (o_c pe_int (fun _ => .int _)) set_list))) (s_cons (s_asg (o_idx c (o_lst (a_cons (o_c pe_int (fun _ => .int _)) (a_cons (o_c pe_int (fun _ => .int _)) (a_cons (o_c pe_int (fun _ => .int _)) (a_cons (o_c pe_int (fun _ => .int _)) (a_cons (o_c pe_int (fun _ => .int _)) (a_nil))))))) (o_bin d_mod (o_cty d_int (by rfl) T.n_int PL.bt_int (a_cons (o_potIdx c (pv 0) (o_c pe_int (fun _ => .int _)) (fun _ _ => rfl)) (a_nil))) (o_c pe_int (fun _ => .int _))) (fun _ _ => rfl)) (pg_name (i := 3) c.nd rfl (Or.inl rfl))) (s_cons (s_asg (o_bin d_mod (o_cty d_int (by rfl) T.n_int PL.bt_int (a_cons (o_bin d_pow (o_cty d_int (by rfl) T.n_int PL.bt_int (a_cons (o_bin (d_add c) (o_bin (d_add c) (o_potIdx c (pv 0) (o_c pe_int (fun _ => .int _)) (fun _ _ => rfl)) (o_bin d_mul (o_bin d_mul (o_c pe_int (fun _ => .int _)) (o_potIdx c (pv 0) (o_c pe_int (fun _ => .int _)) (fun _ _ => rfl))) (o_potIdx c (pv 0) (o_c pe_int (fun _ => .int _)) (fun _ _ => rfl)))) (o_c pe_int (fun _ => .int _))) (a_nil))) (o_c pe_int (fun _ => .int _))) (a_nil))) (o_var (pv 3))) (pg_name (i := 4) c.nd rfl (Or.inl rfl))) (s_cons (s_asg (o_bin d_mod (o_cty d_int (by rfl) T.n_int PL.bt_int (a_cons (o_bin d_mul (o_var (pv 4)) (o_bin (d_add c) (o_bin d_mod (o_cty d_int (by rfl) T.n_int PL.bt_int (a_cons (o_var (pv 4)) (a_nil))) (o_c pe_int (fun _ => .int _))) (o_bin d_mul (o_c pe_int (fun _ => .int _)) (o_potIdx c (pv 0) (o_c pe_int (fun _ => .int _)) (fun _ _ => rfl))))) (a_nil))) (o_c pe_int (fun _ => .int _))) (pg_name (i := 4) c.nd rfl (Or.inl rfl))) (s_one (s_ret (o_bin d_mod (o_cty d_int (by rfl) T.n_int PL.bt_int (a_cons (o_bin d_fdv (o_var (pv 4)) (o_c pe_int (fun _ => .int _))) (a_nil))) (o_var (pv 1)))))))))) sat_law_take
theorem fn_law_of (T : Tx K mg w) (h_law_take : Cal P w K mg base "_law_take" 1 ["pot", "upto"] S_law_take) {fa : Addr} {fd : FuncData} (F : Def K mg "_law_of" s_law_of ["pot", "some"] fa fd) : FnG P w K mg base CX0 2 fa fd ["pot", "some"] (toSp K mg S_law_of) :=
  def_fn (k := 1) (ms := m_law_of) F sc_law_of (fun cdv A outer s H c hr => s_one (s_ret (o_idx c (o_var (pv 1)) (o_fn c h_law_take hr (by rfl) (a_cons (o_var (pv 0)) (a_cons (o_cb (d_len c) (by rfl) T.n_len PL.bt_len (a_cons (o_var (pv 1)) (a_nil))) (a_nil)))) (fun _ _ => rfl)))) sat_law_of
theorem fn_law_cells (T : Tx K mg w) {fa : Addr} {fd : FuncData} (F : Def K mg "_law_cells" s_law_cells ["script", "most"] fa fd) : FnG P w K mg base CX0 1 fa fd ["script", "most"] (toSp K mg S_law_cells) :=
  def_fn (k := 0) (ms := m_law_cells) F sc_law_cells (fun cdv A outer s H c hr => s_one (s_ret (o_lstR1 (pe_listRg c.calm (by rfl) T.n_list (prg_1 (by rfl) T.n_range (o_cb (d_max c) (by rfl) T.n_max PL.bt_max (a_cons (o_c pe_int (fun _ => .int _)) (a_cons (o_cb (d_min c) (by rfl) T.n_min PL.bt_min (a_cons (o_var (pv 1)) (a_cons (o_cb (d_len c) (by rfl) T.n_len PL.bt_len (a_cons (o_var (pv 0)) (a_nil))) (a_nil)))) (a_nil))))))))) sat_law_cells
theorem fn_law_led (T : Tx K mg w) {fa : Addr} {fd : FuncData} (F : Def K mg "_law_led" s_law_led ["motion", "low", "tops"] fa fd) : FnG P w K mg base CX0 1 fa fd ["motion", "low", "tops"] (toSp K mg S_law_led) :=
  def_fn (k := 0) (ms := m_law_led) F sc_law_led (fun cdv A outer s H c hr => s_cons (s_if (t_cmp (d_eq c) (o_cb (d_len c) (by rfl) T.n_len PL.bt_len (a_cons (o_var (pv 2)) (a_nil))) (o_c pe_int (fun _ => .int _)) (nomark _)) (s_one (s_ret (o_ifE (t_cmp (d_eq c) (o_var (pv 0)) (o_c pe_int (fun _ => .int _)) (nomark _)) (o_tup (a_cons (o_bin d_sub (o_var (pv 1)) (o_idx c (o_var (pv 2)) (o_c pe_int (fun _ => .int _)) (fun _ _ => rfl))) (a_nil))) (o_var (pv 2))))) (s_nil)) (s_cons (s_asgT (ts := [3, 4]) (o_ifE (t_cmp d_gt (o_var (pv 0)) (o_c pe_int (fun _ => .int _)) (nomark _)) (o_tup (a_cons (o_bin d_sub (o_var (pv 1)) (o_idx c (o_var (pv 2)) (o_c pe_int (fun _ => .int _)) (fun _ _ => rfl))) (a_cons (o_idx c (o_var (pv 2)) (o_c pe_int (fun _ => .int _)) (fun _ _ => rfl)) (a_nil)))) (o_var (pv 2))) (g_tup c (g_cons (g_name (pg_name (i := 3) c.nd rfl (Or.inl rfl))) (g_cons (g_name (pg_name (i := 4) c.nd rfl (Or.inl rfl))) (g_nil))))) (s_cons (s_for (hp := PassesOwn.never) (ts := [5]) c (i_rg1 (pi_range1 (by rfl) T.n_range (a_cons (o_bin d_mod (o_cty d_int (by rfl) T.n_int PL.bt_int (a_cons (o_var (pv 0)) (a_nil))) (o_c pe_int (fun _ => .int _))) (a_nil)))) (g_name (pg_name (i := 5) c.nd rfl (Or.inl rfl))) (s_one (s_par2 (ps_par c.calm c.nd (i := 3) (j := 4) rfl rfl (by decide) rfl rfl (mo_cons (o_bin d_sub (o_var (pv 1)) (o_var (pv 4))) (mo_cons (o_var (pv 3)) (mo_nil))) (by rfl))))) (s_one (s_ret (o_tup (a_cons (o_var (pv 3)) (a_cons (o_var (pv 4)) (a_nil))))))))) sat_law_led
theorem fn_law_fraction (T : Tx K mg w) {fa : Addr} {fd : FuncData} (F : Def K mg "_law_fraction" s_law_fraction ["top", "low"] fa fd) : FnG P w K mg base CX0 1 fa fd ["top", "low"] (toSp K mg S_law_fraction) :=
  def_fn (k := 0) (ms := m_law_fraction) F sc_law_fraction (fun cdv A outer s H c hr => s_cons (s_par2 (ps_par c.calm c.nd (i := 2) (j := 3) rfl rfl (by decide) rfl rfl (mo_cons (o_cb d_abs (by rfl) T.n_abs PL.bt_abs (a_cons (o_cty d_int (by rfl) T.n_int PL.bt_int (a_cons (o_var (pv 0)) (a_nil))) (a_nil))) (mo_cons (o_cty d_int (by rfl) T.n_int PL.bt_int (a_cons (o_var (pv 1)) (a_nil))) (mo_nil))) (by rfl))) (s_cons (s_whl (hp := PassesOwn.never) (t_cmp d_gt (o_var (pv 2)) (o_c pe_int (fun _ => .int _)) (nomark _)) (s_one (s_par2 (ps_par c.calm c.nd (i := 2) (j := 3) rfl rfl (by decide) rfl rfl (mo_cons (o_bin d_mod (o_var (pv 3)) (o_var (pv 2))) (mo_cons (o_var (pv 2)) (mo_nil))) (by rfl))))) (s_one (s_ret (o_tup (a_cons (o_bin d_fdv (o_cty d_int (by rfl) T.n_int PL.bt_int (a_cons (o_var (pv 0)) (a_nil))) (o_var (pv 3))) (a_cons (o_bin d_fdv (o_cty d_int (by rfl) T.n_int PL.bt_int (a_cons (o_var (pv 1)) (a_nil))) (o_var (pv 3))) (a_nil)))))))) sat_law_fraction
theorem fn_law_fractions (T : Tx K mg w) (h_law_fraction : Cal P w K mg base "_law_fraction" 1 ["top", "low"] S_law_fraction) {fa : Addr} {fd : FuncData} (F : Def K mg "_law_fractions" s_law_fractions ["low", "tops"] fa fd) : FnG P w K mg base CX0 2 fa fd ["low", "tops"] (toSp K mg S_law_fractions) :=
  def_fn (k := 1) (ms := m_law_fractions) F sc_law_fractions (fun cdv A outer s H c hr => s_one (s_ret (o_cty (d_tupOf c) (by rfl) T.n_tuple PL.bt_tuple (a_cons (o_lc (ts := [2]) (vs := [2]) (by decide) (pe_lc (own := [("top", 2)]) c.calm c.nd (i_seq c (o_var (pv 1))) (blk_of (N := ["low", "tops", "top"]) (sc := defScope s_law_fractions) (own := [("top", 2)]) rfl rfl (by decide +kernel)) (blk_g c fun _ _ _ _ _ c => g_name (pg_name (i := 2) c.nd rfl (Or.inl rfl))) (blk_t c fun _ _ _ _ _ c => ts_nil) (blk_e c fun _ _ _ _ _ c => o_fn c h_law_fraction hr (by rfl) (a_cons (o_var (pv 2)) (a_cons (o_var (pv 0)) (a_nil)))))) (a_nil))))) sat_law_fractions
theorem fn_law_probed (T : Tx K mg w) (h_law_led : Cal P w K mg base "_law_led" 1 ["motion", "low", "tops"] S_law_led) {fa : Addr} {fd : FuncData} (F : Def K mg "_law_probed" s_law_probed ["sides", "one", "other"] fa fd) : FnG P w K mg base CX0 2 fa fd ["sides", "one", "other"] (toSp K mg S_law_probed) :=
  def_fn (k := 1) (ms := m_law_probed) F sc_law_probed (fun cdv A outer s H c hr => s_cons (s_asg (o_ifE (t_cmp (d_eq c) (o_var (pv 0)) (o_c pe_int (fun _ => .int _)) (nomark _)) (o_lst (a_cons (o_tup (a_cons (o_c pe_int (fun _ => .int _)) (a_cons (o_c pe_int (fun _ => .int _)) (a_nil)))) (a_cons (o_tup (a_cons (o_c pe_int (fun _ => .int _)) (a_cons (o_c pe_int (fun _ => .int _)) (a_nil)))) (a_cons (o_tup (a_cons (o_c pe_int (fun _ => .int _)) (a_cons (o_c pe_int (fun _ => .int _)) (a_nil)))) (a_nil))))) (o_lst (a_cons (o_tup (a_cons (o_c pe_int (fun _ => .int _)) (a_nil))) (a_cons (o_tup (a_cons (o_c pe_int (fun _ => .int _)) (a_nil))) (a_nil))))) (pg_name (i := 3) c.nd rfl (Or.inl rfl))) (s_cons (s_for (hp := PassesOwn.never) (ts := [4]) c (i_rg1 (pi_range1 (by rfl) T.n_range (a_cons (o_ifE (t_cmp (d_eq c) (o_var (pv 0)) (o_c pe_int (fun _ => .int _)) (nomark _)) (o_c pe_int (fun _ => .int _)) (o_c pe_int (fun _ => .int _))) (a_nil)))) (g_name (pg_name (i := 4) c.nd rfl (Or.inr rfl))) (s_one (s_if (t_val (o_cb (d_all c) (by rfl) T.n_all PL.bt_all (a_cons (o_lc (ts := [5]) (vs := [5]) (by decide) (pe_lc (own := [("tops", 5)]) c.calm c.nd (i_seq c (o_var (pv 3))) (blk_of (N := ["sides", "one", "other", "some", "motion", "tops"]) (sc := defScope s_law_probed) (own := [("tops", 5)]) rfl rfl (by decide +kernel)) (blk_g c fun _ _ _ _ _ c => g_name (pg_name (i := 5) c.nd rfl (Or.inl rfl))) (blk_t c fun _ _ _ _ _ c => ts_nil) (blk_e c fun _ _ _ _ _ c => o_cmp (d_eq c) (o_fn c h_law_led hr (by rfl) (a_cons (o_var (pv 4)) (a_cons (o_c pe_int (fun _ => .int _)) (a_cons (o_var (pv 5)) (a_nil))))) (o_fn c h_law_led hr (by rfl) (a_cons (o_var (pv 2)) (a_cons (o_c pe_int (fun _ => .int _)) (a_cons (o_fn c h_law_led hr (by rfl) (a_cons (o_var (pv 1)) (a_cons (o_c pe_int (fun _ => .int _)) (a_cons (o_var (pv 5)) (a_nil))))) (a_nil))))) (nomark _)))) (a_nil)))) (s_one (s_ret (o_var (pv 4)))) (s_nil)))) (s_one (s_ret (o_c pe_non (fun _ => .non)))))) sat_law_probed
theorem fn_law_are_pairs_right (T : Tx K mg w) (h_law_probed : Cal P w K mg base "_law_probed" 2 ["sides", "one", "other"] S_law_probed) (h_joint_motion : Cal P w K mg base "joint_motion" 4 ["sides", "one", "other"] S_joint_motion) (h_back_motion : Cal P w K mg base "back_motion" 4 ["sides", "one"] S_back_motion) {fa : Addr} {fd : FuncData} (F : Def K mg "_law_are_pairs_right" s_law_are_pairs_right ["sides"] fa fd) : FnG P w K mg base CX0 5 fa fd ["sides"] (toSp K mg S_law_are_pairs_right) :=
  def_fn (k := 4) (ms := m_law_are_pairs_right) F sc_law_are_pairs_right (fun cdv A outer s H c hr => s_cons (s_asg (o_lstR1 (pe_listRg c.calm (by rfl) T.n_list (prg_1 (by rfl) T.n_range (o_ifE (t_cmp (d_eq c) (o_var (pv 0)) (o_c pe_int (fun _ => .int _)) (nomark _)) (o_c pe_int (fun _ => .int _)) (o_c pe_int (fun _ => .int _)))))) (pg_name (i := 1) c.nd rfl (Or.inl rfl))) (s_cons (s_for (hp := PassesOwn.never) (ts := [2]) c (i_seq c (o_var (pv 1))) (g_name (pg_name (i := 2) c.nd rfl (Or.inr rfl))) (s_cons (s_setLc (ts := [4]) (vs := [4]) (by decide) (ps_setLc (i := 3) (own := [("other", 4)]) c.calm c.nd rfl rfl (sw_true rfl rfl rfl (by decide +kernel)) (i_seq c (o_var (pv 1))) (blk_of (N := ["sides", "motions", "one", "due", "other"]) (sc := defScope s_law_are_pairs_right) (own := [("other", 4)]) rfl rfl (by decide +kernel)) (blk_g c fun _ _ _ _ _ c => g_name (pg_name (i := 4) c.nd rfl (Or.inl rfl))) (blk_t c fun _ _ _ _ _ c => ts_nil) (blk_e c fun _ _ _ _ _ c => o_fn c h_law_probed hr (by rfl) (a_cons (o_var (pv 0)) (a_cons (o_var (pv 2)) (a_cons (o_var (pv 4)) (a_nil))))))) (s_cons (s_if (t_cmp (d_ne c) (o_cb (d_repr c) (by rfl) T.n_repr PL.bt_repr (a_cons (o_lc (ts := [4]) (vs := [4]) (by decide) (pe_lc (own := [("other", 4)]) c.calm c.nd (i_seq c (o_var (pv 1))) (blk_of (N := ["sides", "motions", "one", "due", "other"]) (sc := defScope s_law_are_pairs_right) (own := [("other", 4)]) rfl rfl (by decide +kernel)) (blk_g c fun _ _ _ _ _ c => g_name (pg_name (i := 4) c.nd rfl (Or.inl rfl))) (blk_t c fun _ _ _ _ _ c => ts_nil) (blk_e c fun _ _ _ _ _ c => o_fn c h_joint_motion hr (by rfl) (a_cons (o_var (pv 0)) (a_cons (o_var (pv 2)) (a_cons (o_var (pv 4)) (a_nil))))))) (a_nil))) (o_cb (d_repr c) (by rfl) T.n_repr PL.bt_repr (a_cons (o_var (pv 3)) (a_nil))) (nomark _)) (s_one (s_ret (o_c pe_bl (fun _ => .bl _)))) (s_nil)) (s_one (s_if (t_cmp (d_ne c) (o_cb (d_repr c) (by rfl) T.n_repr PL.bt_repr (a_cons (o_fn c h_back_motion hr (by rfl) (a_cons (o_var (pv 0)) (a_cons (o_var (pv 2)) (a_nil)))) (a_nil))) (o_cb (d_repr c) (by rfl) T.n_repr PL.bt_repr (a_cons (o_bm c (d_lindex c) PySem.F.plainAttrs_list PySem.F.slot_list_index PySem.F.type_list_index (o_var (pv 3)) (a_cons (o_c pe_int (fun _ => .int _)) (a_nil))) (a_nil))) (nomark _)) (s_one (s_ret (o_c pe_bl (fun _ => .bl _)))) (s_nil)))))) (s_one (s_ret (o_c pe_bl (fun _ => .bl _)))))) sat_law_are_pairs_right
theorem fn_law_is_led_right (T : Tx K mg w) (h_law_of : Cal P w K mg base "_law_of" 2 ["pot", "some"] S_law_of) (h_law_take : Cal P w K mg base "_law_take" 1 ["pot", "upto"] S_law_take) (h_law_led : Cal P w K mg base "_law_led" 1 ["motion", "low", "tops"] S_law_led) (h_law_fractions : Cal P w K mg base "_law_fractions" 2 ["low", "tops"] S_law_fractions) (h_point_under : Cal P w K mg base "point_under" 4 ["sides", "motion", "point"] S_point_under) (h_joint_motion : Cal P w K mg base "joint_motion" 4 ["sides", "one", "other"] S_joint_motion) (h_cell_under : Cal P w K mg base "cell_under" 4 ["sides", "size", "motion", "cell"] S_cell_under) (h_back_motion : Cal P w K mg base "back_motion" 4 ["sides", "one"] S_back_motion) {fa : Addr} {fd : FuncData} (F : Def K mg "_law_is_led_right" s_law_is_led_right ["pot", "sides"] fa fd) : FnG P w K mg base CX0 5 fa fd ["pot", "sides"] (toSp K mg S_law_is_led_right) :=
  def_fn (k := 4) (ms := m_law_is_led_right) F sc_law_is_led_right (fun cdv A outer s H c hr => s_cons (s_asg (o_ifE (t_cmp (d_eq c) (o_var (pv 1)) (o_c pe_int (fun _ => .int _)) (nomark _)) (o_c pe_int (fun _ => .int _)) (o_c pe_int (fun _ => .int _))) (pg_name (i := 2) c.nd rfl (Or.inl rfl))) (s_cons (s_parT (k := 3) (by decide) (ps_asg (pe_tup (mo_cons (o_fn c h_law_take hr (by rfl) (a_cons (o_var (pv 0)) (a_cons (o_var (pv 2)) (a_nil)))) (mo_cons (o_fn c h_law_take hr (by rfl) (a_cons (o_var (pv 0)) (a_cons (o_var (pv 2)) (a_nil)))) (mo_cons (o_fn c h_law_of hr (by rfl) (a_cons (o_var (pv 0)) (a_cons (o_lst (a_cons (o_c pe_int (fun _ => .int _)) (a_cons (o_c pe_int (fun _ => .int _)) (a_cons (o_c pe_int (fun _ => .int _)) (a_cons (o_c pe_int (fun _ => .int _)) (a_cons (o_c pe_int (fun _ => .int _)) (a_cons (o_bin d_pow (o_c pe_int (fun _ => .int _)) (o_c pe_int (fun _ => .int _))) (a_cons (o_c pe_int (fun _ => .int _)) (a_nil))))))))) (a_nil)))) (mo_nil))))) (pg_tup c.calm (g_ns_cons (pg_name (i := 3) c.nd rfl (Or.inl rfl)) (g_ns_cons (pg_name (i := 4) c.nd rfl (Or.inl rfl)) (g_ns_cons (pg_name (i := 5) c.nd rfl (Or.inr rfl)) (g_ns_nil))))))) (s_cons (s_asg (o_cty (d_tupOf c) (by rfl) T.n_tuple PL.bt_tuple (a_cons (o_lc (ts := [13]) (vs := [13]) (by decide) (pe_lc (own := [("side", 13)]) c.calm c.nd (i_rg1 (pi_range1 (by rfl) T.n_range (a_cons (o_var (pv 1)) (a_nil)))) (blk_of (N := ["pot", "sides", "many", "one", "other", "low", "tops", "point", "far", "both", "size", "cell", "led", "side"]) (sc := defScope s_law_is_led_right) (own := [("side", 13)]) rfl rfl (by decide +kernel)) (blk_g c fun _ _ _ _ _ c => g_name (pg_name (i := 13) c.nd rfl (Or.inl rfl))) (blk_t c fun _ _ _ _ _ c => ts_nil) (blk_e c fun _ _ _ _ _ c => o_fn c h_law_take hr (by rfl) (a_cons (o_var (pv 0)) (a_cons (o_bin (d_add c) (o_var (pv 5)) (o_c pe_int (fun _ => .int _))) (a_nil)))))) (a_nil))) (pg_name (i := 6) c.nd rfl (Or.inl rfl))) (s_cons (s_par2 (ps_par c.calm c.nd (i := 7) (j := 8) rfl rfl (by decide) rfl rfl (mo_cons (o_fn c h_law_fractions hr (by rfl) (a_cons (o_var (pv 5)) (a_cons (o_var (pv 6)) (a_nil)))) (mo_cons (o_fn c h_law_led hr (by rfl) (a_cons (o_var (pv 3)) (a_cons (o_var (pv 5)) (a_cons (o_var (pv 6)) (a_nil))))) (mo_nil))) (by rfl))) (s_cons (s_if (t_cmp (d_ne c) (o_cb (d_repr c) (by rfl) T.n_repr PL.bt_repr (a_cons (o_fn c h_point_under hr (by rfl) (a_cons (o_var (pv 1)) (a_cons (o_var (pv 3)) (a_cons (o_var (pv 7)) (a_nil))))) (a_nil))) (o_cb (d_repr c) (by rfl) T.n_repr PL.bt_repr (a_cons (o_fn c h_law_fractions hr (by rfl) (a_cons (o_var (pv 5)) (a_cons (o_var (pv 8)) (a_nil)))) (a_nil))) (nomark _)) (s_one (s_ret (o_c pe_bl (fun _ => .bl _)))) (s_nil)) (s_cons (s_asg (o_fn c h_point_under hr (by rfl) (a_cons (o_var (pv 1)) (a_cons (o_fn c h_joint_motion hr (by rfl) (a_cons (o_var (pv 1)) (a_cons (o_var (pv 3)) (a_cons (o_var (pv 4)) (a_nil))))) (a_cons (o_var (pv 7)) (a_nil))))) (pg_name (i := 9) c.nd rfl (Or.inl rfl))) (s_cons (s_if (t_cmp (d_ne c) (o_cb (d_repr c) (by rfl) T.n_repr PL.bt_repr (a_cons (o_var (pv 9)) (a_nil))) (o_cb (d_repr c) (by rfl) T.n_repr PL.bt_repr (a_cons (o_fn c h_law_fractions hr (by rfl) (a_cons (o_var (pv 5)) (a_cons (o_fn c h_law_led hr (by rfl) (a_cons (o_var (pv 4)) (a_cons (o_var (pv 5)) (a_cons (o_var (pv 8)) (a_nil))))) (a_nil)))) (a_nil))) (nomark _)) (s_one (s_ret (o_c pe_bl (fun _ => .bl _)))) (s_nil)) (s_cons (s_asg (o_fn c h_law_of hr (by rfl) (a_cons (o_var (pv 0)) (a_cons (o_lst (a_cons (o_c pe_int (fun _ => .int _)) (a_cons (o_c pe_int (fun _ => .int _)) (a_cons (o_c pe_int (fun _ => .int _)) (a_cons (o_c pe_int (fun _ => .int _)) (a_cons (o_c pe_int (fun _ => .int _)) (a_cons (o_c pe_int (fun _ => .int _)) (a_cons (o_bin d_pow (o_c pe_int (fun _ => .int _)) (o_c pe_int (fun _ => .int _))) (a_nil))))))))) (a_nil)))) (pg_name (i := 10) c.nd rfl (Or.inr rfl))) (s_cons (s_asg (o_cty (d_tupOf c) (by rfl) T.n_tuple PL.bt_tuple (a_cons (o_lc (ts := [13]) (vs := [13]) (by decide) (pe_lc (own := [("side", 13)]) c.calm c.nd (i_rg1 (pi_range1 (by rfl) T.n_range (a_cons (o_var (pv 1)) (a_nil)))) (blk_of (N := ["pot", "sides", "many", "one", "other", "low", "tops", "point", "far", "both", "size", "cell", "led", "side"]) (sc := defScope s_law_is_led_right) (own := [("side", 13)]) rfl rfl (by decide +kernel)) (blk_g c fun _ _ _ _ _ c => g_name (pg_name (i := 13) c.nd rfl (Or.inl rfl))) (blk_t c fun _ _ _ _ _ c => ts_nil) (blk_e c fun _ _ _ _ _ c => o_fn c h_law_take hr (by rfl) (a_cons (o_var (pv 0)) (a_cons (o_var (pv 10)) (a_nil)))))) (a_nil))) (pg_name (i := 11) c.nd rfl (Or.inl rfl))) (s_cons (s_asg (o_fn c h_cell_under hr (by rfl) (a_cons (o_var (pv 1)) (a_cons (o_var (pv 10)) (a_cons (o_var (pv 3)) (a_cons (o_var (pv 11)) (a_nil)))))) (pg_name (i := 12) c.nd rfl (Or.inl rfl))) (s_cons (s_if (t_cmp (d_ne c) (o_cb (d_repr c) (by rfl) T.n_repr PL.bt_repr (a_cons (o_var (pv 12)) (a_nil))) (o_cb (d_repr c) (by rfl) T.n_repr PL.bt_repr (a_cons (o_fn c h_law_led hr (by rfl) (a_cons (o_var (pv 3)) (a_cons (o_bin d_sub (o_var (pv 10)) (o_c pe_int (fun _ => .int _))) (a_cons (o_var (pv 11)) (a_nil))))) (a_nil))) (nomark _)) (s_one (s_ret (o_c pe_bl (fun _ => .bl _)))) (s_nil)) (s_one (s_ret (o_cmp (d_eq c) (o_cb (d_repr c) (by rfl) T.n_repr PL.bt_repr (a_cons (o_fn c h_cell_under hr (by rfl) (a_cons (o_var (pv 1)) (a_cons (o_var (pv 10)) (a_cons (o_fn c h_back_motion hr (by rfl) (a_cons (o_var (pv 1)) (a_cons (o_var (pv 3)) (a_nil)))) (a_cons (o_var (pv 12)) (a_nil)))))) (a_nil))) (o_cb (d_repr c) (by rfl) T.n_repr PL.bt_repr (a_cons (o_var (pv 11)) (a_nil))) (nomark _))))))))))))))) sat_law_is_led_right
theorem fn_law_right (T : Tx K mg w) (h_law_are_pairs_right : Cal P w K mg base "_law_are_pairs_right" 5 ["sides"] S_law_are_pairs_right) (h_law_is_led_right : Cal P w K mg base "_law_is_led_right" 5 ["pot", "sides"] S_law_is_led_right) {fa : Addr} {fd : FuncData} (F : Def K mg "_law_right" s_law_right ["pot"] fa fd) : FnG P w K mg base CX0 6 fa fd ["pot"] (toSp K mg S_law_right) :=
  def_fn (k := 5) (ms := m_law_right) F sc_law_right (fun cdv A outer s H c hr => s_cons (s_if (t_not (t_val (o_cb (d_all c) (by rfl) T.n_all PL.bt_all (a_cons (o_lc (ts := [1]) (vs := [1]) (by decide) (pe_lc (own := [("sides", 1)]) c.calm c.nd (i_seq c (o_tup (a_cons (o_c pe_int (fun _ => .int _)) (a_cons (o_c pe_int (fun _ => .int _)) (a_nil))))) (blk_of (N := ["pot", "sides", "lap"]) (sc := defScope s_law_right) (own := [("sides", 1)]) rfl rfl (by decide +kernel)) (blk_g c fun _ _ _ _ _ c => g_name (pg_name (i := 1) c.nd rfl (Or.inl rfl))) (blk_t c fun _ _ _ _ _ c => ts_nil) (blk_e c fun _ _ _ _ _ c => o_fn c h_law_are_pairs_right hr (by rfl) (a_cons (o_var (pv 1)) (a_nil))))) (a_nil))))) (s_one (s_ret (o_c pe_bl (fun _ => .bl _)))) (s_nil)) (s_one (s_ret (o_cb (d_all c) (by rfl) T.n_all PL.bt_all (a_cons (o_lc (ts := [2]) (vs := [2]) (by decide) (pe_lc (own := [("lap", 2)]) c.calm c.nd (i_rg1 (pi_range1 (by rfl) T.n_range (a_cons (o_c pe_int (fun _ => .int _)) (a_nil)))) (blk_of (N := ["pot", "sides", "lap"]) (sc := defScope s_law_right) (own := [("lap", 2)]) rfl rfl (by decide +kernel)) (blk_g c fun _ _ _ _ _ c => g_name (pg_name (i := 2) c.nd rfl (Or.inl rfl))) (blk_t c fun _ _ _ _ _ c => ts_nil) (blk_e c fun _ _ _ _ _ c => o_fn c h_law_is_led_right hr (by rfl) (a_cons (o_var (pv 0)) (a_cons (o_bin (d_add c) (o_c pe_int (fun _ => .int _)) (o_cty d_int (by rfl) T.n_int PL.bt_int (a_cons (o_cmp d_gt (o_var (pv 2)) (o_c pe_int (fun _ => .int _)) (nomark _)) (a_nil)))) (a_nil)))))) (a_nil)))))) sat_law_right
theorem fn_law (T : Tx K mg w) (h_law_cells : Cal P w K mg base "_law_cells" 1 ["script", "most"] S_law_cells) (h_law_right : Cal P w K mg base "_law_right" 6 ["pot"] S_law_right) (h_law_pot : Cal P w K mg base "_law_pot" 1 ["script", "place"] S_law_pot) {fa : Addr} {fd : FuncData} (F : Def K mg "law" s_law ["script"] fa fd) : FnG P w K mg base CX0 7 fa fd ["script"] (toSp K mg S_law) :=
  def_fn (k := 6) (ms := m_law) F sc_law (fun cdv A outer s H c hr => s_one (s_ret (o_cb (d_all c) (by rfl) T.n_all PL.bt_all (a_cons (o_lc (ts := [1]) (vs := [1]) (by decide) (pe_lc (own := [("place", 1)]) c.calm c.nd (i_seq c (o_fn c h_law_cells hr (by rfl) (a_cons (o_var (pv 0)) (a_cons (o_c pe_int (fun _ => .int _)) (a_nil))))) (blk_of (N := ["script", "place"]) (sc := defScope s_law) (own := [("place", 1)]) rfl rfl (by decide +kernel)) (blk_g c fun _ _ _ _ _ c => g_name (pg_name (i := 1) c.nd rfl (Or.inl rfl))) (blk_t c fun _ _ _ _ _ c => ts_nil) (blk_e c fun _ _ _ _ _ c => o_fn c h_law_right hr (by rfl) (a_cons (o_fn c h_law_pot hr (by rfl) (a_cons (o_var (pv 0)) (a_cons (o_var (pv 1)) (a_nil)))) (a_nil))))) (a_nil))))) sat_law
end

end K02

set_option Elab.async false
set_option linter.all false
set_option maxRecDepth 100000
set_option maxHeartbeats 4000000
namespace K02
open PySem L2 PL
theorem all_mk {l : PySem.W.OpenLaw} {w : World} {K : PySem.W.Frag} {h : Heap} {mg : Str → Option Value} {fa : Addr} (X : K.In h) (G : h.Ns mainGlobals mg) (hfa : mg "law" = some (.ref fa))
    {f0 : Addr} {od0 an0 : Option Addr} {sl0 : Array (Option Value)} {oc0 kV0 dc0 pm0 cd0 ct0 : Value}
    {f1 : Addr} {od1 an1 : Option Addr} {sl1 : Array (Option Value)} {oc1 kV1 dc1 pm1 cd1 ct1 : Value}
    {f2 : Addr} {od2 an2 : Option Addr} {sl2 : Array (Option Value)} {oc2 kV2 dc2 pm2 cd2 ct2 : Value}
    {f3 : Addr} {od3 an3 : Option Addr} {sl3 : Array (Option Value)} {oc3 kV3 dc3 pm3 cd3 ct3 : Value}
    {f4 : Addr} {od4 an4 : Option Addr} {sl4 : Array (Option Value)} {oc4 kV4 dc4 pm4 cd4 ct4 : Value}
    {f5 : Addr} {od5 an5 : Option Addr} {sl5 : Array (Option Value)} {oc5 kV5 dc5 pm5 cd5 ct5 : Value}
    {f6 : Addr} {od6 an6 : Option Addr} {sl6 : Array (Option Value)} {oc6 kV6 dc6 pm6 cd6 ct6 : Value}
    {f7 : Addr} {od7 an7 : Option Addr} {sl7 : Array (Option Value)} {oc7 kV7 dc7 pm7 cd7 ct7 : Value}
    {f8 : Addr} {od8 an8 : Option Addr} {sl8 : Array (Option Value)} {oc8 kV8 dc8 pm8 cd8 ct8 : Value}
    {f9 : Addr} {od9 an9 : Option Addr} {sl9 : Array (Option Value)} {oc9 kV9 dc9 pm9 cd9 ct9 : Value}
    {f10 : Addr} {od10 an10 : Option Addr} {sl10 : Array (Option Value)} {oc10 kV10 dc10 pm10 cd10 ct10 : Value}
    {f11 : Addr} {od11 an11 : Option Addr} {sl11 : Array (Option Value)} {oc11 kV11 dc11 pm11 cd11 ct11 : Value}
    {f12 : Addr} {od12 an12 : Option Addr} {sl12 : Array (Option Value)} {oc12 kV12 dc12 pm12 cd12 ct12 : Value}
    {f13 : Addr} {od13 an13 : Option Addr} {sl13 : Array (Option Value)} {oc13 kV13 dc13 pm13 cd13 ct13 : Value}
    {f14 : Addr} {od14 an14 : Option Addr} {sl14 : Array (Option Value)} {oc14 kV14 dc14 pm14 cd14 ct14 : Value}
    {f15 : Addr} {od15 an15 : Option Addr} {sl15 : Array (Option Value)} {oc15 kV15 dc15 pm15 cd15 ct15 : Value}
    {f16 : Addr} {od16 an16 : Option Addr} {sl16 : Array (Option Value)} {oc16 kV16 dc16 pm16 cd16 ct16 : Value}
    {f17 : Addr} {od17 an17 : Option Addr} {sl17 : Array (Option Value)} {oc17 kV17 dc17 pm17 cd17 ct17 : Value}
    {f18 : Addr} {od18 an18 : Option Addr} {sl18 : Array (Option Value)} {oc18 kV18 dc18 pm18 cd18 ct18 : Value}
    {f19 : Addr} {od19 an19 : Option Addr} {sl19 : Array (Option Value)} {oc19 kV19 dc19 pm19 cd19 ct19 : Value}
    {f20 : Addr} {od20 an20 : Option Addr} {sl20 : Array (Option Value)} {oc20 kV20 dc20 pm20 cd20 ct20 : Value}
    {f21 : Addr} {od21 an21 : Option Addr} {sl21 : Array (Option Value)} {oc21 kV21 dc21 pm21 cd21 ct21 : Value}
    {f22 : Addr} {od22 an22 : Option Addr} {sl22 : Array (Option Value)} {oc22 kV22 dc22 pm22 cd22 ct22 : Value}
    {f23 : Addr} {od23 an23 : Option Addr} {sl23 : Array (Option Value)} {oc23 kV23 dc23 pm23 cd23 ct23 : Value}
    {f24 : Addr} {od24 an24 : Option Addr} {sl24 : Array (Option Value)} {oc24 kV24 dc24 pm24 cd24 ct24 : Value}
    {f25 : Addr} {od25 an25 : Option Addr} {sl25 : Array (Option Value)} {oc25 kV25 dc25 pm25 cd25 ct25 : Value}
    {p0 : Addr} {pn0 : Nat}
    {t1 : Tok}
    {pe0 : Array DictEntry}
    (a0 : PySem.W.nsIn K mainGlobals "is_integer" = some (some (.ref f0)))
    (l0 : K.lookup f0 = some ⟨oc0, od0, .func (PySem.W.fnOf "is_integer" "is_integer" (defArgs s_is_integer) (defBody s_is_integer) (defScope s_is_integer) .none kV0 dc0 pm0 an0 cd0 ct0), sl0⟩)
    (c0 : PySem.W.codeIn K cd0 "is_integer" = true)
    (k0 : PySem.W.keepIn K (.ref f0) = true)
    (a1 : PySem.W.nsIn K mainGlobals "divisor" = some (some (.ref f1)))
    (l1 : K.lookup f1 = some ⟨oc1, od1, .func (PySem.W.fnOf "divisor" "divisor" (defArgs s_divisor) (defBody s_divisor) (defScope s_divisor) .none kV1 dc1 pm1 an1 cd1 ct1), sl1⟩)
    (c1 : PySem.W.codeIn K cd1 "divisor" = true)
    (k1 : PySem.W.keepIn K (.ref f1) = true)
    (a2 : PySem.W.nsIn K mainGlobals "is_fraction" = some (some (.ref f2)))
    (l2 : K.lookup f2 = some ⟨oc2, od2, .func (PySem.W.fnOf "is_fraction" "is_fraction" (defArgs s_is_fraction) (defBody s_is_fraction) (defScope s_is_fraction) .none kV2 dc2 pm2 an2 cd2 ct2), sl2⟩)
    (c2 : PySem.W.codeIn K cd2 "is_fraction" = true)
    (k2 : PySem.W.keepIn K (.ref f2) = true)
    (a3 : PySem.W.nsIn K mainGlobals "is_motion" = some (some (.ref f3)))
    (l3 : K.lookup f3 = some ⟨oc3, od3, .func (PySem.W.fnOf "is_motion" "is_motion" (defArgs s_is_motion) (defBody s_is_motion) (defScope s_is_motion) .none kV3 dc3 pm3 an3 cd3 ct3), sl3⟩)
    (c3 : PySem.W.codeIn K cd3 "is_motion" = true)
    (k3 : PySem.W.keepIn K (.ref f3) = true)
    (a4 : PySem.W.nsIn K mainGlobals "check_sides" = some (some (.ref f4)))
    (l4 : K.lookup f4 = some ⟨oc4, od4, .func (PySem.W.fnOf "check_sides" "check_sides" (defArgs s_check_sides) (defBody s_check_sides) (defScope s_check_sides) .none kV4 dc4 pm4 an4 cd4 ct4), sl4⟩)
    (c4 : PySem.W.codeIn K cd4 "check_sides" = true)
    (k4 : PySem.W.keepIn K (.ref f4) = true)
    (a5 : PySem.W.nsIn K mainGlobals "check_motion" = some (some (.ref f5)))
    (l5 : K.lookup f5 = some ⟨oc5, od5, .func (PySem.W.fnOf "check_motion" "check_motion" (defArgs s_check_motion) (defBody s_check_motion) (defScope s_check_motion) .none kV5 dc5 pm5 an5 cd5 ct5), sl5⟩)
    (c5 : PySem.W.codeIn K cd5 "check_motion" = true)
    (k5 : PySem.W.keepIn K (.ref f5) = true)
    (a6 : PySem.W.nsIn K mainGlobals "motions_joined" = some (some (.ref f6)))
    (l6 : K.lookup f6 = some ⟨oc6, od6, .func (PySem.W.fnOf "motions_joined" "motions_joined" (defArgs s_motions_joined) (defBody s_motions_joined) (defScope s_motions_joined) .none kV6 dc6 pm6 an6 cd6 ct6), sl6⟩)
    (c6 : PySem.W.codeIn K cd6 "motions_joined" = true)
    (k6 : PySem.W.keepIn K (.ref f6) = true)
    (a7 : PySem.W.nsIn K mainGlobals "cell_moved" = some (some (.ref f7)))
    (l7 : K.lookup f7 = some ⟨oc7, od7, .func (PySem.W.fnOf "cell_moved" "cell_moved" (defArgs s_cell_moved) (defBody s_cell_moved) (defScope s_cell_moved) .none kV7 dc7 pm7 an7 cd7 ct7), sl7⟩)
    (c7 : PySem.W.codeIn K cd7 "cell_moved" = true)
    (k7 : PySem.W.keepIn K (.ref f7) = true)
    (a8 : PySem.W.nsIn K mainGlobals "joint_motion" = some (some (.ref f8)))
    (l8 : K.lookup f8 = some ⟨oc8, od8, .func (PySem.W.fnOf "joint_motion" "joint_motion" (defArgs s_joint_motion) (defBody s_joint_motion) (defScope s_joint_motion) .none kV8 dc8 pm8 an8 cd8 ct8), sl8⟩)
    (c8 : PySem.W.codeIn K cd8 "joint_motion" = true)
    (k8 : PySem.W.keepIn K (.ref f8) = true)
    (a9 : PySem.W.nsIn K mainGlobals "back_motion" = some (some (.ref f9)))
    (l9 : K.lookup f9 = some ⟨oc9, od9, .func (PySem.W.fnOf "back_motion" "back_motion" (defArgs s_back_motion) (defBody s_back_motion) (defScope s_back_motion) .none kV9 dc9 pm9 an9 cd9 ct9), sl9⟩)
    (c9 : PySem.W.codeIn K cd9 "back_motion" = true)
    (k9 : PySem.W.keepIn K (.ref f9) = true)
    (a10 : PySem.W.nsIn K mainGlobals "less_from_one" = some (some (.ref f10)))
    (l10 : K.lookup f10 = some ⟨oc10, od10, .func (PySem.W.fnOf "less_from_one" "less_from_one" (defArgs s_less_from_one) (defBody s_less_from_one) (defScope s_less_from_one) .none kV10 dc10 pm10 an10 cd10 ct10), sl10⟩)
    (c10 : PySem.W.codeIn K cd10 "less_from_one" = true)
    (k10 : PySem.W.keepIn K (.ref f10) = true)
    (a11 : PySem.W.nsIn K mainGlobals "is_share_tuple" = some (some (.ref f11)))
    (l11 : K.lookup f11 = some ⟨oc11, od11, .func (PySem.W.fnOf "is_share_tuple" "is_share_tuple" (defArgs s_is_share_tuple) (defBody s_is_share_tuple) (defScope s_is_share_tuple) .none kV11 dc11 pm11 an11 cd11 ct11), sl11⟩)
    (c11 : PySem.W.codeIn K cd11 "is_share_tuple" = true)
    (k11 : PySem.W.keepIn K (.ref f11) = true)
    (a12 : PySem.W.nsIn K mainGlobals "point_under" = some (some (.ref f12)))
    (l12 : K.lookup f12 = some ⟨oc12, od12, .func (PySem.W.fnOf "point_under" "point_under" (defArgs s_point_under) (defBody s_point_under) (defScope s_point_under) .none kV12 dc12 pm12 an12 cd12 ct12), sl12⟩)
    (c12 : PySem.W.codeIn K cd12 "point_under" = true)
    (k12 : PySem.W.keepIn K (.ref f12) = true)
    (a13 : PySem.W.nsIn K mainGlobals "cell_under" = some (some (.ref f13)))
    (l13 : K.lookup f13 = some ⟨oc13, od13, .func (PySem.W.fnOf "cell_under" "cell_under" (defArgs s_cell_under) (defBody s_cell_under) (defScope s_cell_under) .none kV13 dc13 pm13 an13 cd13 ct13), sl13⟩)
    (c13 : PySem.W.codeIn K cd13 "cell_under" = true)
    (k13 : PySem.W.keepIn K (.ref f13) = true)
    (a14 : PySem.W.nsIn K mainGlobals "_law_pot" = some (some (.ref f14)))
    (l14 : K.lookup f14 = some ⟨oc14, od14, .func (PySem.W.fnOf "_law_pot" "_law_pot" (defArgs s_law_pot) (defBody s_law_pot) (defScope s_law_pot) .none kV14 dc14 pm14 an14 cd14 ct14), sl14⟩)
    (c14 : PySem.W.codeIn K cd14 "_law_pot" = true)
    (k14 : PySem.W.keepIn K (.ref f14) = true)
    (a15 : PySem.W.nsIn K mainGlobals "_law_take" = some (some (.ref f15)))
    (l15 : K.lookup f15 = some ⟨oc15, od15, .func (PySem.W.fnOf "_law_take" "_law_take" (defArgs s_law_take) (defBody s_law_take) (defScope s_law_take) .none kV15 dc15 pm15 an15 cd15 ct15), sl15⟩)
    (c15 : PySem.W.codeIn K cd15 "_law_take" = true)
    (k15 : PySem.W.keepIn K (.ref f15) = true)
    (a16 : PySem.W.nsIn K mainGlobals "_law_of" = some (some (.ref f16)))
    (l16 : K.lookup f16 = some ⟨oc16, od16, .func (PySem.W.fnOf "_law_of" "_law_of" (defArgs s_law_of) (defBody s_law_of) (defScope s_law_of) .none kV16 dc16 pm16 an16 cd16 ct16), sl16⟩)
    (c16 : PySem.W.codeIn K cd16 "_law_of" = true)
    (k16 : PySem.W.keepIn K (.ref f16) = true)
    (a17 : PySem.W.nsIn K mainGlobals "_law_cells" = some (some (.ref f17)))
    (l17 : K.lookup f17 = some ⟨oc17, od17, .func (PySem.W.fnOf "_law_cells" "_law_cells" (defArgs s_law_cells) (defBody s_law_cells) (defScope s_law_cells) .none kV17 dc17 pm17 an17 cd17 ct17), sl17⟩)
    (c17 : PySem.W.codeIn K cd17 "_law_cells" = true)
    (k17 : PySem.W.keepIn K (.ref f17) = true)
    (a18 : PySem.W.nsIn K mainGlobals "_law_led" = some (some (.ref f18)))
    (l18 : K.lookup f18 = some ⟨oc18, od18, .func (PySem.W.fnOf "_law_led" "_law_led" (defArgs s_law_led) (defBody s_law_led) (defScope s_law_led) .none kV18 dc18 pm18 an18 cd18 ct18), sl18⟩)
    (c18 : PySem.W.codeIn K cd18 "_law_led" = true)
    (k18 : PySem.W.keepIn K (.ref f18) = true)
    (a19 : PySem.W.nsIn K mainGlobals "_law_fraction" = some (some (.ref f19)))
    (l19 : K.lookup f19 = some ⟨oc19, od19, .func (PySem.W.fnOf "_law_fraction" "_law_fraction" (defArgs s_law_fraction) (defBody s_law_fraction) (defScope s_law_fraction) .none kV19 dc19 pm19 an19 cd19 ct19), sl19⟩)
    (c19 : PySem.W.codeIn K cd19 "_law_fraction" = true)
    (k19 : PySem.W.keepIn K (.ref f19) = true)
    (a20 : PySem.W.nsIn K mainGlobals "_law_fractions" = some (some (.ref f20)))
    (l20 : K.lookup f20 = some ⟨oc20, od20, .func (PySem.W.fnOf "_law_fractions" "_law_fractions" (defArgs s_law_fractions) (defBody s_law_fractions) (defScope s_law_fractions) .none kV20 dc20 pm20 an20 cd20 ct20), sl20⟩)
    (c20 : PySem.W.codeIn K cd20 "_law_fractions" = true)
    (k20 : PySem.W.keepIn K (.ref f20) = true)
    (a21 : PySem.W.nsIn K mainGlobals "_law_probed" = some (some (.ref f21)))
    (l21 : K.lookup f21 = some ⟨oc21, od21, .func (PySem.W.fnOf "_law_probed" "_law_probed" (defArgs s_law_probed) (defBody s_law_probed) (defScope s_law_probed) .none kV21 dc21 pm21 an21 cd21 ct21), sl21⟩)
    (c21 : PySem.W.codeIn K cd21 "_law_probed" = true)
    (k21 : PySem.W.keepIn K (.ref f21) = true)
    (a22 : PySem.W.nsIn K mainGlobals "_law_are_pairs_right" = some (some (.ref f22)))
    (l22 : K.lookup f22 = some ⟨oc22, od22, .func (PySem.W.fnOf "_law_are_pairs_right" "_law_are_pairs_right" (defArgs s_law_are_pairs_right) (defBody s_law_are_pairs_right) (defScope s_law_are_pairs_right) .none kV22 dc22 pm22 an22 cd22 ct22), sl22⟩)
    (c22 : PySem.W.codeIn K cd22 "_law_are_pairs_right" = true)
    (k22 : PySem.W.keepIn K (.ref f22) = true)
    (a23 : PySem.W.nsIn K mainGlobals "_law_is_led_right" = some (some (.ref f23)))
    (l23 : K.lookup f23 = some ⟨oc23, od23, .func (PySem.W.fnOf "_law_is_led_right" "_law_is_led_right" (defArgs s_law_is_led_right) (defBody s_law_is_led_right) (defScope s_law_is_led_right) .none kV23 dc23 pm23 an23 cd23 ct23), sl23⟩)
    (c23 : PySem.W.codeIn K cd23 "_law_is_led_right" = true)
    (k23 : PySem.W.keepIn K (.ref f23) = true)
    (a24 : PySem.W.nsIn K mainGlobals "_law_right" = some (some (.ref f24)))
    (l24 : K.lookup f24 = some ⟨oc24, od24, .func (PySem.W.fnOf "_law_right" "_law_right" (defArgs s_law_right) (defBody s_law_right) (defScope s_law_right) .none kV24 dc24 pm24 an24 cd24 ct24), sl24⟩)
    (c24 : PySem.W.codeIn K cd24 "_law_right" = true)
    (k24 : PySem.W.keepIn K (.ref f24) = true)
    (a25 : PySem.W.nsIn K mainGlobals "law" = some (some (.ref f25)))
    (l25 : K.lookup f25 = some ⟨oc25, od25, .func (PySem.W.fnOf "law" "law" (defArgs s_law) (defBody s_law) (defScope s_law) .none kV25 dc25 pm25 an25 cd25 ct25), sl25⟩)
    (c25 : PySem.W.codeIn K cd25 "law" = true)
    (k25 : PySem.W.keepIn K (.ref f25) = true)
    (yg0 : PySem.W.nsIn K mainGlobals "MOST_MOTION" = some (some (.ref p0)))
    (h0 : K.lookup p0 = some ⟨.type "dict", none, .dict pe0 pn0, #[]⟩)
    (s0 : (p0 == sysModules) = false)
    (v0 : KE K w.params pe0.toList KD_MOST_MOTION)
    (yg1 : PySem.W.nsIn K mainGlobals "QUARTERS" = some (some (.int 4 t1)))
    (z_abs : PySem.W.nsIn K mainGlobals "abs" = some none)
    (z_all : PySem.W.nsIn K mainGlobals "all" = some none)
    (z_bool : PySem.W.nsIn K mainGlobals "bool" = some none)
    (z_int : PySem.W.nsIn K mainGlobals "int" = some none)
    (z_isinstance : PySem.W.nsIn K mainGlobals "isinstance" = some none)
    (z_len : PySem.W.nsIn K mainGlobals "len" = some none)
    (z_list : PySem.W.nsIn K mainGlobals "list" = some none)
    (z_max : PySem.W.nsIn K mainGlobals "max" = some none)
    (z_min : PySem.W.nsIn K mainGlobals "min" = some none)
    (z_range : PySem.W.nsIn K mainGlobals "range" = some none)
    (z_repr : PySem.W.nsIn K mainGlobals "repr" = some none)
    (z_sum : PySem.W.nsIn K mainGlobals "sum" = some none)
    (z_tuple : PySem.W.nsIn K mainGlobals "tuple" = some none) :
    ∃ fd : FuncData, (∀ (s : Shared) (v : Value), BindsTo s fd ⟨[v], []⟩ [("script", v)]) ∧ ∀ base : Heap, K.In base → base.Ns mainGlobals mg → FnG l.prog w K mg base CX0 7 fa fd ["script"] (toSp K mg S_law) := by
  have e := hfa.symm.trans (PySem.W.mg_of X G a25)
  cases e
  have T : Tx K mg w := ⟨PySem.W.mg_none_of X G z_abs, PySem.W.mg_none_of X G z_all, PySem.W.mg_none_of X G z_bool, PySem.W.mg_none_of X G z_int, PySem.W.mg_none_of X G z_isinstance, PySem.W.mg_none_of X G z_len, PySem.W.mg_none_of X G z_list, PySem.W.mg_none_of X G z_max, PySem.W.mg_none_of X G z_min, PySem.W.mg_none_of X G z_range, PySem.W.mg_none_of X G z_repr, PySem.W.mg_none_of X G z_sum, PySem.W.mg_none_of X G z_tuple, ⟨p0, PySem.W.mg_of X G yg0, pe0, pn0, h0, s0, v0⟩, gc_int X G yg1⟩
  have F0 : Def K mg "is_integer" s_is_integer ["value"] _ (PySem.W.fnOf "is_integer" "is_integer" (defArgs s_is_integer) (defBody s_is_integer) (defScope s_is_integer) .none kV0 dc0 pm0 an0 cd0 ct0) := ⟨fun_mk l0 c0 k0, PySem.W.mg_of X G a0, (fun_mk (st := s_is_integer) l0 c0 k0).binds fun _ _ _ _ _ _ us hl => match us, hl with | [_], _ => rfl⟩
  have F1 : Def K mg "divisor" s_divisor ["one", "other"] _ (PySem.W.fnOf "divisor" "divisor" (defArgs s_divisor) (defBody s_divisor) (defScope s_divisor) .none kV1 dc1 pm1 an1 cd1 ct1) := ⟨fun_mk l1 c1 k1, PySem.W.mg_of X G a1, (fun_mk (st := s_divisor) l1 c1 k1).binds fun _ _ _ _ _ _ us hl => match us, hl with | [_, _], _ => rfl⟩
  have F2 : Def K mg "is_fraction" s_is_fraction ["value"] _ (PySem.W.fnOf "is_fraction" "is_fraction" (defArgs s_is_fraction) (defBody s_is_fraction) (defScope s_is_fraction) .none kV2 dc2 pm2 an2 cd2 ct2) := ⟨fun_mk l2 c2 k2, PySem.W.mg_of X G a2, (fun_mk (st := s_is_fraction) l2 c2 k2).binds fun _ _ _ _ _ _ us hl => match us, hl with | [_], _ => rfl⟩
  have F3 : Def K mg "is_motion" s_is_motion ["sides", "value"] _ (PySem.W.fnOf "is_motion" "is_motion" (defArgs s_is_motion) (defBody s_is_motion) (defScope s_is_motion) .none kV3 dc3 pm3 an3 cd3 ct3) := ⟨fun_mk l3 c3 k3, PySem.W.mg_of X G a3, (fun_mk (st := s_is_motion) l3 c3 k3).binds fun _ _ _ _ _ _ us hl => match us, hl with | [_, _], _ => rfl⟩
  have F4 : Def K mg "check_sides" s_check_sides ["sides"] _ (PySem.W.fnOf "check_sides" "check_sides" (defArgs s_check_sides) (defBody s_check_sides) (defScope s_check_sides) .none kV4 dc4 pm4 an4 cd4 ct4) := ⟨fun_mk l4 c4 k4, PySem.W.mg_of X G a4, (fun_mk (st := s_check_sides) l4 c4 k4).binds fun _ _ _ _ _ _ us hl => match us, hl with | [_], _ => rfl⟩
  have F5 : Def K mg "check_motion" s_check_motion ["sides", "motion"] _ (PySem.W.fnOf "check_motion" "check_motion" (defArgs s_check_motion) (defBody s_check_motion) (defScope s_check_motion) .none kV5 dc5 pm5 an5 cd5 ct5) := ⟨fun_mk l5 c5 k5, PySem.W.mg_of X G a5, (fun_mk (st := s_check_motion) l5 c5 k5).binds fun _ _ _ _ _ _ us hl => match us, hl with | [_, _], _ => rfl⟩
  have F6 : Def K mg "motions_joined" s_motions_joined ["sides", "one", "other"] _ (PySem.W.fnOf "motions_joined" "motions_joined" (defArgs s_motions_joined) (defBody s_motions_joined) (defScope s_motions_joined) .none kV6 dc6 pm6 an6 cd6 ct6) := ⟨fun_mk l6 c6 k6, PySem.W.mg_of X G a6, (fun_mk (st := s_motions_joined) l6 c6 k6).binds fun _ _ _ _ _ _ us hl => match us, hl with | [_, _, _], _ => rfl⟩
  have F7 : Def K mg "cell_moved" s_cell_moved ["size", "motion", "cell"] _ (PySem.W.fnOf "cell_moved" "cell_moved" (defArgs s_cell_moved) (defBody s_cell_moved) (defScope s_cell_moved) .none kV7 dc7 pm7 an7 cd7 ct7) := ⟨fun_mk l7 c7 k7, PySem.W.mg_of X G a7, (fun_mk (st := s_cell_moved) l7 c7 k7).binds fun _ _ _ _ _ _ us hl => match us, hl with | [_, _, _], _ => rfl⟩
  have F8 : Def K mg "joint_motion" s_joint_motion ["sides", "one", "other"] _ (PySem.W.fnOf "joint_motion" "joint_motion" (defArgs s_joint_motion) (defBody s_joint_motion) (defScope s_joint_motion) .none kV8 dc8 pm8 an8 cd8 ct8) := ⟨fun_mk l8 c8 k8, PySem.W.mg_of X G a8, (fun_mk (st := s_joint_motion) l8 c8 k8).binds fun _ _ _ _ _ _ us hl => match us, hl with | [_, _, _], _ => rfl⟩
  have F9 : Def K mg "back_motion" s_back_motion ["sides", "one"] _ (PySem.W.fnOf "back_motion" "back_motion" (defArgs s_back_motion) (defBody s_back_motion) (defScope s_back_motion) .none kV9 dc9 pm9 an9 cd9 ct9) := ⟨fun_mk l9 c9 k9, PySem.W.mg_of X G a9, (fun_mk (st := s_back_motion) l9 c9 k9).binds fun _ _ _ _ _ _ us hl => match us, hl with | [_, _], _ => rfl⟩
  have F10 : Def K mg "less_from_one" s_less_from_one ["share"] _ (PySem.W.fnOf "less_from_one" "less_from_one" (defArgs s_less_from_one) (defBody s_less_from_one) (defScope s_less_from_one) .none kV10 dc10 pm10 an10 cd10 ct10) := ⟨fun_mk l10 c10 k10, PySem.W.mg_of X G a10, (fun_mk (st := s_less_from_one) l10 c10 k10).binds fun _ _ _ _ _ _ us hl => match us, hl with | [_], _ => rfl⟩
  have F11 : Def K mg "is_share_tuple" s_is_share_tuple ["sides", "value"] _ (PySem.W.fnOf "is_share_tuple" "is_share_tuple" (defArgs s_is_share_tuple) (defBody s_is_share_tuple) (defScope s_is_share_tuple) .none kV11 dc11 pm11 an11 cd11 ct11) := ⟨fun_mk l11 c11 k11, PySem.W.mg_of X G a11, (fun_mk (st := s_is_share_tuple) l11 c11 k11).binds fun _ _ _ _ _ _ us hl => match us, hl with | [_, _], _ => rfl⟩
  have F12 : Def K mg "point_under" s_point_under ["sides", "motion", "point"] _ (PySem.W.fnOf "point_under" "point_under" (defArgs s_point_under) (defBody s_point_under) (defScope s_point_under) .none kV12 dc12 pm12 an12 cd12 ct12) := ⟨fun_mk l12 c12 k12, PySem.W.mg_of X G a12, (fun_mk (st := s_point_under) l12 c12 k12).binds fun _ _ _ _ _ _ us hl => match us, hl with | [_, _, _], _ => rfl⟩
  have F13 : Def K mg "cell_under" s_cell_under ["sides", "size", "motion", "cell"] _ (PySem.W.fnOf "cell_under" "cell_under" (defArgs s_cell_under) (defBody s_cell_under) (defScope s_cell_under) .none kV13 dc13 pm13 an13 cd13 ct13) := ⟨fun_mk l13 c13 k13, PySem.W.mg_of X G a13, (fun_mk (st := s_cell_under) l13 c13 k13).binds fun _ _ _ _ _ _ us hl => match us, hl with | [_, _, _, _], _ => rfl⟩
  have F14 : Def K mg "_law_pot" s_law_pot ["script", "place"] _ (PySem.W.fnOf "_law_pot" "_law_pot" (defArgs s_law_pot) (defBody s_law_pot) (defScope s_law_pot) .none kV14 dc14 pm14 an14 cd14 ct14) := ⟨fun_mk l14 c14 k14, PySem.W.mg_of X G a14, (fun_mk (st := s_law_pot) l14 c14 k14).binds fun _ _ _ _ _ _ us hl => match us, hl with | [_, _], _ => rfl⟩
  have F15 : Def K mg "_law_take" s_law_take ["pot", "upto"] _ (PySem.W.fnOf "_law_take" "_law_take" (defArgs s_law_take) (defBody s_law_take) (defScope s_law_take) .none kV15 dc15 pm15 an15 cd15 ct15) := ⟨fun_mk l15 c15 k15, PySem.W.mg_of X G a15, (fun_mk (st := s_law_take) l15 c15 k15).binds fun _ _ _ _ _ _ us hl => match us, hl with | [_, _], _ => rfl⟩
  have F16 : Def K mg "_law_of" s_law_of ["pot", "some"] _ (PySem.W.fnOf "_law_of" "_law_of" (defArgs s_law_of) (defBody s_law_of) (defScope s_law_of) .none kV16 dc16 pm16 an16 cd16 ct16) := ⟨fun_mk l16 c16 k16, PySem.W.mg_of X G a16, (fun_mk (st := s_law_of) l16 c16 k16).binds fun _ _ _ _ _ _ us hl => match us, hl with | [_, _], _ => rfl⟩
  have F17 : Def K mg "_law_cells" s_law_cells ["script", "most"] _ (PySem.W.fnOf "_law_cells" "_law_cells" (defArgs s_law_cells) (defBody s_law_cells) (defScope s_law_cells) .none kV17 dc17 pm17 an17 cd17 ct17) := ⟨fun_mk l17 c17 k17, PySem.W.mg_of X G a17, (fun_mk (st := s_law_cells) l17 c17 k17).binds fun _ _ _ _ _ _ us hl => match us, hl with | [_, _], _ => rfl⟩
  have F18 : Def K mg "_law_led" s_law_led ["motion", "low", "tops"] _ (PySem.W.fnOf "_law_led" "_law_led" (defArgs s_law_led) (defBody s_law_led) (defScope s_law_led) .none kV18 dc18 pm18 an18 cd18 ct18) := ⟨fun_mk l18 c18 k18, PySem.W.mg_of X G a18, (fun_mk (st := s_law_led) l18 c18 k18).binds fun _ _ _ _ _ _ us hl => match us, hl with | [_, _, _], _ => rfl⟩
  have F19 : Def K mg "_law_fraction" s_law_fraction ["top", "low"] _ (PySem.W.fnOf "_law_fraction" "_law_fraction" (defArgs s_law_fraction) (defBody s_law_fraction) (defScope s_law_fraction) .none kV19 dc19 pm19 an19 cd19 ct19) := ⟨fun_mk l19 c19 k19, PySem.W.mg_of X G a19, (fun_mk (st := s_law_fraction) l19 c19 k19).binds fun _ _ _ _ _ _ us hl => match us, hl with | [_, _], _ => rfl⟩
  have F20 : Def K mg "_law_fractions" s_law_fractions ["low", "tops"] _ (PySem.W.fnOf "_law_fractions" "_law_fractions" (defArgs s_law_fractions) (defBody s_law_fractions) (defScope s_law_fractions) .none kV20 dc20 pm20 an20 cd20 ct20) := ⟨fun_mk l20 c20 k20, PySem.W.mg_of X G a20, (fun_mk (st := s_law_fractions) l20 c20 k20).binds fun _ _ _ _ _ _ us hl => match us, hl with | [_, _], _ => rfl⟩
  have F21 : Def K mg "_law_probed" s_law_probed ["sides", "one", "other"] _ (PySem.W.fnOf "_law_probed" "_law_probed" (defArgs s_law_probed) (defBody s_law_probed) (defScope s_law_probed) .none kV21 dc21 pm21 an21 cd21 ct21) := ⟨fun_mk l21 c21 k21, PySem.W.mg_of X G a21, (fun_mk (st := s_law_probed) l21 c21 k21).binds fun _ _ _ _ _ _ us hl => match us, hl with | [_, _, _], _ => rfl⟩
  have F22 : Def K mg "_law_are_pairs_right" s_law_are_pairs_right ["sides"] _ (PySem.W.fnOf "_law_are_pairs_right" "_law_are_pairs_right" (defArgs s_law_are_pairs_right) (defBody s_law_are_pairs_right) (defScope s_law_are_pairs_right) .none kV22 dc22 pm22 an22 cd22 ct22) := ⟨fun_mk l22 c22 k22, PySem.W.mg_of X G a22, (fun_mk (st := s_law_are_pairs_right) l22 c22 k22).binds fun _ _ _ _ _ _ us hl => match us, hl with | [_], _ => rfl⟩
  have F23 : Def K mg "_law_is_led_right" s_law_is_led_right ["pot", "sides"] _ (PySem.W.fnOf "_law_is_led_right" "_law_is_led_right" (defArgs s_law_is_led_right) (defBody s_law_is_led_right) (defScope s_law_is_led_right) .none kV23 dc23 pm23 an23 cd23 ct23) := ⟨fun_mk l23 c23 k23, PySem.W.mg_of X G a23, (fun_mk (st := s_law_is_led_right) l23 c23 k23).binds fun _ _ _ _ _ _ us hl => match us, hl with | [_, _], _ => rfl⟩
  have F24 : Def K mg "_law_right" s_law_right ["pot"] _ (PySem.W.fnOf "_law_right" "_law_right" (defArgs s_law_right) (defBody s_law_right) (defScope s_law_right) .none kV24 dc24 pm24 an24 cd24 ct24) := ⟨fun_mk l24 c24 k24, PySem.W.mg_of X G a24, (fun_mk (st := s_law_right) l24 c24 k24).binds fun _ _ _ _ _ _ us hl => match us, hl with | [_], _ => rfl⟩
  have F25 : Def K mg "law" s_law ["script"] _ (PySem.W.fnOf "law" "law" (defArgs s_law) (defBody s_law) (defScope s_law) .none kV25 dc25 pm25 an25 cd25 ct25) := ⟨fun_mk l25 c25 k25, PySem.W.mg_of X G a25, (fun_mk (st := s_law) l25 c25 k25).binds fun _ _ _ _ _ _ us hl => match us, hl with | [_], _ => rfl⟩
  refine ⟨PySem.W.fnOf "law" "law" (defArgs s_law) (defBody s_law) (defScope s_law) .none kV25 dc25 pm25 an25 cd25 ct25, fun s v => .of_eq rfl, fun base _ _ => ?_⟩
  have qis_integer := fn_is_integer (P := l.prog) (w := w) (base := base) T F0
  have his_integer := cal_of F0 qis_integer
  have qdivisor := fn_divisor (P := l.prog) (w := w) (base := base) T F1
  have hdivisor := cal_of F1 qdivisor
  have qis_fraction := fn_is_fraction (P := l.prog) (w := w) (base := base) T his_integer hdivisor F2
  have his_fraction := cal_of F2 qis_fraction
  have qis_motion := fn_is_motion (P := l.prog) (w := w) (base := base) T his_integer F3
  have his_motion := cal_of F3 qis_motion
  have qcheck_sides := fn_check_sides (P := l.prog) (w := w) (base := base) T his_integer F4
  have hcheck_sides := cal_of F4 qcheck_sides
  have qcheck_motion := fn_check_motion (P := l.prog) (w := w) (base := base) T his_motion F5
  have hcheck_motion := cal_of F5 qcheck_motion
  have qmotions_joined := fn_motions_joined (P := l.prog) (w := w) (base := base) T F6
  have hmotions_joined := cal_of F6 qmotions_joined
  have qcell_moved := fn_cell_moved (P := l.prog) (w := w) (base := base) T F7
  have hcell_moved := cal_of F7 qcell_moved
  have qjoint_motion := fn_joint_motion (P := l.prog) (w := w) (base := base) T hcheck_sides hcheck_motion hmotions_joined F8
  have hjoint_motion := cal_of F8 qjoint_motion
  have qback_motion := fn_back_motion (P := l.prog) (w := w) (base := base) T hcheck_sides hcheck_motion F9
  have hback_motion := cal_of F9 qback_motion
  have qless_from_one := fn_less_from_one (P := l.prog) (w := w) (base := base) T F10
  have hless_from_one := cal_of F10 qless_from_one
  have qis_share_tuple := fn_is_share_tuple (P := l.prog) (w := w) (base := base) T his_fraction F11
  have his_share_tuple := cal_of F11 qis_share_tuple
  have qpoint_under := fn_point_under (P := l.prog) (w := w) (base := base) T hcheck_sides hcheck_motion his_share_tuple hless_from_one F12
  have hpoint_under := cal_of F12 qpoint_under
  have qcell_under := fn_cell_under (P := l.prog) (w := w) (base := base) T hcheck_sides his_integer hcheck_motion hcell_moved F13
  have hcell_under := cal_of F13 qcell_under
  have qlaw_pot := fn_law_pot (P := l.prog) (w := w) (base := base) T F14
  have hlaw_pot := cal_pot (cal_of F14 qlaw_pot) sat_law_pot
  have qlaw_take := fn_law_take (P := l.prog) (w := w) (base := base) T F15
  have hlaw_take := cal_of F15 qlaw_take
  have qlaw_of := fn_law_of (P := l.prog) (w := w) (base := base) T hlaw_take F16
  have hlaw_of := cal_of F16 qlaw_of
  have qlaw_cells := fn_law_cells (P := l.prog) (w := w) (base := base) T F17
  have hlaw_cells := cal_of F17 qlaw_cells
  have qlaw_led := fn_law_led (P := l.prog) (w := w) (base := base) T F18
  have hlaw_led := cal_of F18 qlaw_led
  have qlaw_fraction := fn_law_fraction (P := l.prog) (w := w) (base := base) T F19
  have hlaw_fraction := cal_of F19 qlaw_fraction
  have qlaw_fractions := fn_law_fractions (P := l.prog) (w := w) (base := base) T hlaw_fraction F20
  have hlaw_fractions := cal_of F20 qlaw_fractions
  have qlaw_probed := fn_law_probed (P := l.prog) (w := w) (base := base) T hlaw_led F21
  have hlaw_probed := cal_of F21 qlaw_probed
  have qlaw_are_pairs_right := fn_law_are_pairs_right (P := l.prog) (w := w) (base := base) T hlaw_probed hjoint_motion hback_motion F22
  have hlaw_are_pairs_right := cal_of F22 qlaw_are_pairs_right
  have qlaw_is_led_right := fn_law_is_led_right (P := l.prog) (w := w) (base := base) T hlaw_of hlaw_take hlaw_led hlaw_fractions hpoint_under hjoint_motion hcell_under hback_motion F23
  have hlaw_is_led_right := cal_of F23 qlaw_is_led_right
  have qlaw_right := fn_law_right (P := l.prog) (w := w) (base := base) T hlaw_are_pairs_right hlaw_is_led_right F24
  have hlaw_right := cal_of F24 qlaw_right
  exact fn_law T hlaw_cells hlaw_right hlaw_pot F25
end K02
open PySem PySem.W PyProof.Rows
set_option maxRecDepth 100000 in
set_option maxHeartbeats 0 in
theorem PySem.Challenge.cw_selfdrawn_k02_whole_motions_one_behind_a_holds : PySem.Challenge.rw_selfdrawn_k02_whole_motions_one_behind_a.Holds := by
  w_on; o_law; k_head; (case hw => w_witness2)
  k_fill
  refine PL.walk_d (l := PySem.Challenge.rw_selfdrawn_k02_whole_motions_one_behind_a) (f := K02.S_law) (k := 7) (x := "script") rfl (by decide) rfl ⟨rfl, by decide, by decide⟩ (fun w h Y => PySem.W.kIn_of Y) ?F (fun ns _ => ⟨ns, rfl, rfl, fun _ => rfl⟩)
  case F =>
    intro w mg fa h KX G hmg
    refine' K02.all_mk KX G hmg ?a0 ?l0 ?c0 ?k0 ?a1 ?l1 ?c1 ?k1 ?a2 ?l2 ?c2 ?k2 ?a3 ?l3 ?c3 ?k3 ?a4 ?l4 ?c4 ?k4 ?a5 ?l5 ?c5 ?k5 ?a6 ?l6 ?c6 ?k6 ?a7 ?l7 ?c7 ?k7 ?a8 ?l8 ?c8 ?k8 ?a9 ?l9 ?c9 ?k9 ?a10 ?l10 ?c10 ?k10 ?a11 ?l11 ?c11 ?k11 ?a12 ?l12 ?c12 ?k12 ?a13 ?l13 ?c13 ?k13 ?a14 ?l14 ?c14 ?k14 ?a15 ?l15 ?c15 ?k15 ?a16 ?l16 ?c16 ?k16 ?a17 ?l17 ?c17 ?k17 ?a18 ?l18 ?c18 ?k18 ?a19 ?l19 ?c19 ?k19 ?a20 ?l20 ?c20 ?k20 ?a21 ?l21 ?c21 ?k21 ?a22 ?l22 ?c22 ?k22 ?a23 ?l23 ?c23 ?k23 ?a24 ?l24 ?c24 ?k24 ?a25 ?l25 ?c25 ?k25 ?yg0 ?h0 ?s0 ?v0 ?yg1 ?z_abs ?z_all ?z_bool ?z_int ?z_isinstance ?z_len ?z_list ?z_max ?z_min ?z_range ?z_repr ?z_sum ?z_tuple
    (case a0 => k_is)
    (case l0 => k_is)
    (case c0 => k_is)
    (case k0 => k_is)
    (case a1 => k_is)
    (case l1 => k_is)
    (case c1 => k_is)
    (case k1 => k_is)
    (case a2 => k_is)
    (case l2 => k_is)
    (case c2 => k_is)
    (case k2 => k_is)
    (case a3 => k_is)
    (case l3 => k_is)
    (case c3 => k_is)
    (case k3 => k_is)
    (case a4 => k_is)
    (case l4 => k_is)
    (case c4 => k_is)
    (case k4 => k_is)
    (case a5 => k_is)
    (case l5 => k_is)
    (case c5 => k_is)
    (case k5 => k_is)
    (case a6 => k_is)
    (case l6 => k_is)
    (case c6 => k_is)
    (case k6 => k_is)
    (case a7 => k_is)
    (case l7 => k_is)
    (case c7 => k_is)
    (case k7 => k_is)
    (case a8 => k_is)
    (case l8 => k_is)
    (case c8 => k_is)
    (case k8 => k_is)
    (case a9 => k_is)
    (case l9 => k_is)
    (case c9 => k_is)
    (case k9 => k_is)
    (case a10 => k_is)
    (case l10 => k_is)
    (case c10 => k_is)
    (case k10 => k_is)
    (case a11 => k_is)
    (case l11 => k_is)
    (case c11 => k_is)
    (case k11 => k_is)
    (case a12 => k_is)
    (case l12 => k_is)
    (case c12 => k_is)
    (case k12 => k_is)
    (case a13 => k_is)
    (case l13 => k_is)
    (case c13 => k_is)
    (case k13 => k_is)
    (case a14 => k_is)
    (case l14 => k_is)
    (case c14 => k_is)
    (case k14 => k_is)
    (case a15 => k_is)
    (case l15 => k_is)
    (case c15 => k_is)
    (case k15 => k_is)
    (case a16 => k_is)
    (case l16 => k_is)
    (case c16 => k_is)
    (case k16 => k_is)
    (case a17 => k_is)
    (case l17 => k_is)
    (case c17 => k_is)
    (case k17 => k_is)
    (case a18 => k_is)
    (case l18 => k_is)
    (case c18 => k_is)
    (case k18 => k_is)
    (case a19 => k_is)
    (case l19 => k_is)
    (case c19 => k_is)
    (case k19 => k_is)
    (case a20 => k_is)
    (case l20 => k_is)
    (case c20 => k_is)
    (case k20 => k_is)
    (case a21 => k_is)
    (case l21 => k_is)
    (case c21 => k_is)
    (case k21 => k_is)
    (case a22 => k_is)
    (case l22 => k_is)
    (case c22 => k_is)
    (case k22 => k_is)
    (case a23 => k_is)
    (case l23 => k_is)
    (case c23 => k_is)
    (case k23 => k_is)
    (case a24 => k_is)
    (case l24 => k_is)
    (case c24 => k_is)
    (case k24 => k_is)
    (case a25 => k_is)
    (case l25 => k_is)
    (case c25 => k_is)
    (case k25 => k_is)
    (case yg0 => k_is)
    (case h0 => k_is)
    (case s0 => rfl)
    (case v0 => exact .cons ⟨⟨_, rfl⟩, rfl⟩ ⟨.int _, ⟨_, rfl⟩, fun _ => .int _⟩ (.cons ⟨⟨_, rfl⟩, rfl⟩ ⟨.int _, ⟨_, rfl⟩, fun _ => .int _⟩ (.nil)))
    (case yg1 => k_is)
    (case z_abs => k_is)
    (case z_all => k_is)
    (case z_bool => k_is)
    (case z_int => k_is)
    (case z_isinstance => k_is)
    (case z_len => k_is)
    (case z_list => k_is)
    (case z_max => k_is)
    (case z_min => k_is)
    (case z_range => k_is)
    (case z_repr => k_is)
    (case z_sum => k_is)
    (case z_tuple => k_is)

