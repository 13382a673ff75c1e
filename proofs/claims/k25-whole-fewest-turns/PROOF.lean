import PyProof.Rows.All
import Wide.All
import OpenK.AllK
import Wide.FinOn
import PySem.Challenge.RW_movedchest_k25_whole_fewest_turns
import HandS.ForMost
import HandS.TupAny
import HandS.TupMul
import HandS.IsInst
import HandS.Style
import HandS.Zip
import HandS.Flow
import HandS.WordsExc
import HandS.ExcOwn
import HandS.ExcIs
import KE.KStateDown
import Lean
import HandS.Defaults
import HandS.Head0
import HandS.Head1
import HandS.Head2
import HandS.HeadEnd
import HandS.HeadHook1
import HandS.HeadHook2
import HandS.HeadNt
import HandS.Iter
import KE.KDictKeyed
import KE.KDictDisplayH
import KE.KDictWalk
import HandS.TupSets
import KE.SortData
set_option Elab.async false
set_option linter.all false
set_option maxRecDepth 100000
set_option maxHeartbeats 4000000
/-! part Mv1 -/
set_option maxHeartbeats 4000000
namespace Mv
open PySem PySem.Spec L2

/-! ### data -/
abbrev D := PyData
abbrev Ev := List (Option D)
def nth : Ev → Nat → Option D
  | [], _ => none
  | x :: _, 0 => x
  | _ :: r, n + 1 => nth r n
def stE : Ev → Nat → Option D → Ev
  | [], _, _ => []
  | _ :: r, 0, y => y :: r
  | x :: r, n + 1, y => x :: stE r n y
theorem stE_len : ∀ (r : Ev) (n : Nat) (y : Option D), (stE r n y).length = r.length
  | [], _, _ => rfl
  | _ :: _, 0, _ => rfl
  | _ :: r, n + 1, y => by show (stE r n y).length + 1 = _; rw [stE_len r n y]; rfl
theorem nth_stE : ∀ (r : Ev) (n i : Nat) (y : Option D) (d : D), nth (stE r n y) i = some d → (i = n ∧ y = some d) ∨ (i ≠ n ∧ nth r i = some d)
  | [], _, _, _, _, h => by cases h
  | _ :: _, 0, 0, y, d, h => .inl ⟨rfl, h⟩
  | _ :: _, 0, i + 1, y, d, h => .inr ⟨Nat.succ_ne_zero i, h⟩
  | x :: r, n + 1, 0, y, d, h => .inr ⟨(Nat.succ_ne_zero n).symm, h⟩
  | x :: r, n + 1, i + 1, y, d, h => by
    rcases nth_stE r n i y d h with ⟨a, b⟩ | ⟨a, b⟩
    · exact .inl ⟨congrArg (· + 1) a, b⟩
    · exact .inr ⟨fun e => a (Nat.succ.inj e), b⟩

mutual
inductive Rp (K : PySem.W.Frag) (G : Hp) : V → D → Prop
  | non : Rp K G .non .none
  | bl (b : Bool) : Rp K G (.bl b) (.bool b)
  | int (i : Int) : Rp K G (.int i) (.int i)
  | str (x : Str) : Rp K G (.str x) (.str x)
  | lst {a : Addr} {xs : List V} {ds : List D} : G a = some (.lst xs) → RpAll K G xs ds → Rp K G (.ref a) (.list ds)
  | tup {a : Addr} {xs : List V} {ds : List D} : SqT K G a xs → RpAll K G xs ds → Rp K G (.ref a) (.tuple ds)
inductive RpAll (K : PySem.W.Frag) (G : Hp) : List V → List D → Prop
  | nil : RpAll K G [] []
  | cons {v : V} {vs : List V} {d : D} {ds : List D} : Rp K G v d → RpAll K G vs ds → RpAll K G (v :: vs) (d :: ds)
end
theorem sqT_same {K : PySem.W.Frag} {H H' : Hp} {a : Addr} {xs : List V} (e : Same H H') (h : SqT K H a xs) : SqT K H' a xs := by
  rcases h with (h | ⟨o, h⟩) | h
  · exact .inl (.inl (e _ _ h))
  · exact .inl (.inr ⟨o, e _ _ h⟩)
  · exact .inr h
section
variable {K : PySem.W.Frag} {G G' : Hp}
mutual
theorem Rp.mono (e : Same G G') : ∀ (d : D) (v : V), Rp K G v d → Rp K G' v d
  | .none, _, h => by cases h; exact .non
  | .bool b, _, h => by cases h; exact .bl b
  | .int i, _, h => by cases h; exact .int i
  | .str x, _, h => by cases h; exact .str x
  | .list ds, _, h => by
    cases h with
    | lst h1 h2 => exact .lst (e _ _ h1) (RpAll.mono e ds _ h2)
  | .tuple ds, _, h => by
    cases h with
    | tup h1 h2 => exact .tup (sqT_same e h1) (RpAll.mono e ds _ h2)
  | .dict _, _, h => by cases h
theorem RpAll.mono (e : Same G G') : ∀ (ds : List D) (vs : List V), RpAll K G vs ds → RpAll K G' vs ds
  | [], _, h => by cases h; exact .nil
  | d :: ds, _, h => by
    cases h with
    | cons h1 h2 => exact .cons (Rp.mono e d _ h1) (RpAll.mono e ds _ h2)
end
mutual
theorem Rp.dp : ∀ (d : D) (v : V), Rp K G v d → Dp K G v d
  | .none, _, h => by cases h; exact .non
  | .bool b, _, h => by cases h; exact .bl b
  | .int i, _, h => by cases h; exact .int i
  | .str x, _, h => by cases h; exact .str x
  | .list ds, _, h => by
    cases h with
    | lst h1 h2 => exact .lst (.inl (.inl h1)) (RpAll.dp ds _ h2)
  | .tuple ds, _, h => by
    cases h with
    | tup h1 h2 => exact .tup h1 (RpAll.dp ds _ h2)
  | .dict _, _, h => by cases h
theorem RpAll.dp : ∀ (ds : List D) (vs : List V), RpAll K G vs ds → DpAll K G vs ds
  | [], _, h => by cases h; exact .nil
  | d :: ds, _, h => by
    cases h with
    | cons h1 h2 => exact .cons (Rp.dp d _ h1) (RpAll.dp ds _ h2)
end
theorem RpAll.length : ∀ {vs : List V} {ds : List D}, RpAll K G vs ds → vs.length = ds.length
  | _, _, .nil => rfl
  | _, _, .cons _ t => by rw [List.length_cons, List.length_cons, RpAll.length t]
theorem RpAll.append : ∀ {vs ws : List V} {ds es : List D}, RpAll K G vs ds → RpAll K G ws es → RpAll K G (vs ++ ws) (ds ++ es)
  | _, _, _, _, .nil, t => t
  | _, _, _, _, .cons h t, u => .cons h (RpAll.append t u)
theorem RpAll.take : ∀ {vs : List V} {ds : List D} (n : Nat), RpAll K G vs ds → RpAll K G (vs.take n) (ds.take n)
  | _, _, 0, _ => .nil
  | _, _, _ + 1, .nil => .nil
  | _, _, n + 1, .cons h t => .cons h (RpAll.take n t)
theorem RpAll.drop : ∀ {vs : List V} {ds : List D} (n : Nat), RpAll K G vs ds → RpAll K G (vs.drop n) (ds.drop n)
  | _, _, 0, t => t
  | _, _, _ + 1, .nil => .nil
  | _, _, n + 1, .cons _ t => RpAll.drop n t
theorem RpAll.get : ∀ {vs : List V} {ds : List D} {i : Nat} {d : D}, RpAll K G vs ds → ds[i]? = some d → ∃ v, vs[i]? = some v ∧ Rp K G v d
  | _, _, i, _, .nil, h => by simp at h
  | _, _, 0, _, .cons h t, e => by
    have e' := Option.some.inj e
    subst e'
    exact ⟨_, rfl, h⟩
  | _, _, i + 1, d, .cons h t, e => by
    obtain ⟨v, h1, h2⟩ := RpAll.get (i := i) (d := d) t e
    exact ⟨v, h1, h2⟩
theorem RpAll.get' : ∀ {vs : List V} {ds : List D} {i : Nat} {v : V}, RpAll K G vs ds → vs[i]? = some v → ∃ d, ds[i]? = some d ∧ Rp K G v d
  | _, _, i, _, .nil, h => by simp at h
  | _, _, 0, _, .cons h t, e => by
    have e' := Option.some.inj e
    subst e'
    exact ⟨_, rfl, h⟩
  | _, _, i + 1, d, .cons h t, e => by
    obtain ⟨v, h1, h2⟩ := RpAll.get' (i := i) (v := d) t e
    exact ⟨v, h1, h2⟩
theorem RpAll.set : ∀ {vs : List V} {ds : List D} (i : Nat) {v : V} {d : D}, RpAll K G vs ds → Rp K G v d → RpAll K G (vs.set i v) (ds.set i d)
  | _, _, _, _, _, .nil, _ => .nil
  | _, _, 0, _, _, .cons _ t, h => .cons h t
  | _, _, i + 1, _, _, .cons h t, h' => .cons h (RpAll.set i t h')
theorem RpAll.rep {vs : List V} {ds : List D} (h : RpAll K G vs ds) : ∀ k : Nat, RpAll K G (List.replicate k vs).flatten (List.replicate k ds).flatten
  | 0 => .nil
  | k + 1 => by
    rw [List.replicate_succ, List.replicate_succ, List.flatten_cons, List.flatten_cons]
    exact h.append (RpAll.rep h k)
end

/-! ### heaps: G the part that stays, H the whole -/
structure Grow (G H G' H' : Hp) : Prop where
  g : Same G G'
  i : Same G' H'
  h : Same H H'
  n : ∀ a, Mut (H a) → G a = none → G' a = none
section
variable {G H G1 H1 G2 H2 : Hp}
theorem Grow.refl (e : Same G H) : Grow G H G H := ⟨Same.refl _, e, Same.refl _, fun _ _ q => q⟩
theorem mut_same {H H' : Hp} (e : Same H H') {a : Addr} (h : Mut (H a)) : Mut (H' a) := by
  cases q : H a with
  | none => rw [q] at h; exact h.elim
  | some o => rw [e _ _ q, ← q]; exact h
theorem mut_none {H : Hp} {a : Addr} (h : Mut (H a)) : H a ≠ none := fun q => by rw [q] at h; exact h
theorem Grow.trans (a : Grow G H G1 H1) (b : Grow G1 H1 G2 H2) : Grow G H G2 H2 :=
  ⟨a.g.trans b.g, b.i, a.h.trans b.h, fun c h1 h2 => b.n c (mut_same a.h h1) (a.n c h1 h2)⟩
theorem same_new {H : Hp} {p : Addr} {o : HO} (h : H p = none) : Same H (upd H p o) := fun b x e => by rw [upd_ne (ne_of_none e h)]; exact e
theorem same_upd2 {G H : Hp} {p : Addr} {o : HO} (e : Same G H) : Same (upd G p o) (upd H p o) := fun b x q => by
  by_cases hb : b = p
  · subst hb; rw [upd_same] at q ⊢; exact q
  · rw [upd_ne hb] at q ⊢; exact e _ _ q
theorem Grow.new {p : Addr} {o : HO} (e : Same G H) (hp : H p = none) : Grow G H (upd G p o) (upd H p o) :=
  ⟨same_new (e.free hp), same_upd2 e, same_new hp, fun a h1 h2 => by
    have : a ≠ p := fun z => mut_none h1 (by rw [z]; exact hp)
    rw [upd_ne this]; exact h2⟩
/-- a new object that is not yet part of what stays -/
theorem Grow.side {p : Addr} {o : HO} (e : Same G H) (hp : H p = none) : Grow G H G (upd H p o) :=
  ⟨Same.refl _, e.trans (same_new hp), same_new hp, fun _ _ q => q⟩
end

/-- the slots hold the data that rho tells -/
structure Rs (K : PySem.W.Frag) (G : Hp) (σ : St) (ρ : Ev) : Prop where
  len : σ.length = ρ.length
  at_ : ∀ i d, nth ρ i = some d → ∃ v, σ[i]? = some (some v) ∧ Rp K G v d
theorem Rs.mono {K : PySem.W.Frag} {G G' : Hp} {σ : St} {ρ : Ev} (r : Rs K G σ ρ) (e : Same G G') : Rs K G' σ ρ :=
  ⟨r.len, fun i d h => let ⟨v, a, b⟩ := r.at_ i d h; ⟨v, a, Rp.mono e d v b⟩⟩
theorem nth_lt : ∀ {r : Ev} {i : Nat} {d : D}, nth r i = some d → i < r.length
  | [], _, _, h => by cases h
  | _ :: _, 0, _, _ => Nat.succ_pos _
  | _ :: r, i + 1, _, h => Nat.succ_lt_succ (nth_lt (r := r) h)
theorem Rs.set {K : PySem.W.Frag} {G : Hp} {σ : St} {ρ : Ev} (r : Rs K G σ ρ) (i : Nat) {v : V} {d : D} (h : Rp K G v d) : Rs K G (σ.set i (some v)) (stE ρ i (some d)) := by
  refine ⟨by rw [List.length_set, stE_len]; exact r.len, fun j e q => ?_⟩
  have hj : j < ρ.length := by
    have := nth_lt q
    rw [stE_len] at this
    exact this
  rcases nth_stE ρ i j (some d) e q with ⟨rfl, z⟩ | ⟨ne, z⟩
  · cases z
    exact ⟨v, List.getElem?_set_self (by rw [r.len]; exact hj), h⟩
  · obtain ⟨w, a, b⟩ := r.at_ j e z
    exact ⟨w, by rw [List.getElem?_set_ne (Ne.symm ne)]; exact a, b⟩
theorem Rs.unset {K : PySem.W.Frag} {G : Hp} {σ : St} {ρ : Ev} (r : Rs K G σ ρ) (i : Nat) (y : Option V) : Rs K G (σ.set i y) (stE ρ i none) := by
  refine ⟨by rw [List.length_set, stE_len]; exact r.len, fun j e q => ?_⟩
  rcases nth_stE ρ i j none e q with ⟨rfl, z⟩ | ⟨ne, z⟩
  · cases z
  · obtain ⟨w, a, b⟩ := r.at_ j e z
    exact ⟨w, by rw [List.getElem?_set_ne (Ne.symm ne)]; exact a, b⟩
def wipeE (ρ : Ev) : List Nat → Ev
  | [] => ρ
  | v :: vs => stE (wipeE ρ vs) v none
theorem Rs.wipe {K : PySem.W.Frag} {G : Hp} {σ : St} {ρ : Ev} (r : Rs K G σ ρ) : ∀ vs : List Nat, Rs K G (wipe σ vs) (wipeE ρ vs)
  | [] => r
  | v :: vs => (Rs.wipe r vs).unset v none

/-! ### canonical readings -/
def tD (K : PySem.W.Frag) (f : Ev → Option D) : TE := fun σ H Q => ∃ G ρ d, Same G H ∧ Rs K G σ ρ ∧ f ρ = some d ∧ ∀ v G' H', Grow G H G' H' → Rp K G' v d → Q v H'
def bD (f : Ev → Option Bool) (K : PySem.W.Frag) : TT := fun σ H Q => ∃ G ρ d, Same G H ∧ Rs K G σ ρ ∧ f ρ = some d ∧ ∀ G' H', Grow G H G' H' → Q d H'
def aD (K : PySem.W.Frag) (f : Ev → Option (List D)) : TA := fun σ H Q => ∃ G ρ d, Same G H ∧ Rs K G σ ρ ∧ f ρ = some d ∧ ∀ v G' H', Grow G H G' H' → RpAll K G' v d → Q v H'
inductive Out where
  | nx (ρ : Ev)
  | rt (d : D)
def sPost (K : PySem.W.Frag) (G H : Hp) (De : Ends) : Out → Prop
  | .nx ρ => ∀ σ' G' H', Grow G H G' H' → Rs K G' σ' ρ → De.nx σ' H'
  | .rt d => ∀ v G' H', Grow G H G' H' → Rp K G' v d → De.rt v H'
def sD (K : PySem.W.Frag) (f : Ev → Option Out) : TS := fun De σ H => ∃ G ρ o, Same G H ∧ Rs K G σ ρ ∧ f ρ = some o ∧ sPost K G H De o

section
variable {X : Cx} {e a b c : Expr} {es : List Expr} {t t' : TE} {pos : Pos} {f g : Ev → Option D} {p q : Ev → Option Bool} {h : Ev → Option (List D)}
theorem PE.imp (x : PE X e t) (w : ∀ σ H Q, t' σ H Q → t σ H Q) : PE X e t' := ⟨fun pins s σ H Q I z => x.run pins s σ H Q I (w σ H Q z)⟩
theorem PT.imp {t t' : TT} (x : PT X e t) (w : ∀ σ H Q, t' σ H Q → t σ H Q) : PT X e t' := ⟨fun pins s σ H Q I z => x.run pins s σ H Q I (w σ H Q z)⟩
theorem PW.imp {t t' : TT} (x : PW X e t) (w : ∀ σ H Q, t' σ H Q → t σ H Q) : PW X e t' := ⟨fun wh pins s σ H Q I z => x.run wh pins s σ H Q I (w σ H Q z)⟩
theorem PA.imp {t t' : TA} (x : PA X es t) (w : ∀ σ H Q, t' σ H Q → t σ H Q) : PA X es t' := ⟨fun po pins s σ H Q I z => x.run po pins s σ H Q I (w σ H Q z)⟩
theorem PS.imp {st : Stmt} {t t' : TS} (x : PS X st t) (w : ∀ De σ H, t' De σ H → t De σ H) : PS X st t' := ⟨fun pins s σ H De I z => x.run pins s σ H De I (w De σ H z)⟩
theorem PSs.imp {st : List Stmt} {t t' : TS} (x : PSs X st t) (w : ∀ De σ H, t' De σ H → t De σ H) : PSs X st t' := ⟨fun pins s σ H De I z => x.run pins s σ H De I (w De σ H z)⟩

/-! ### names, constants -/
def vE (i : Nat) : Ev → Option D := fun ρ => nth ρ i
def cE (d : D) : Ev → Option D := fun _ => some d
theorem xv (i : Nat) {x : Str} (hN : X.N[i]? = some x := by rfl) (hv : Vis X.env.scope x := by first | exact Or.inl rfl | exact Or.inr (Or.inl rfl) | exact Or.inr (Or.inr rfl)) (hd : (x == ("__debug__" : Str)) = false := by decide)
    (hcd : (x == ("__classdict__" : Str)) = false := by decide) : PE X (.Name x pos) (tD X.K (vE i)) := by
  refine PE.imp (pe_var (i := i) hN hv hd hcd) ?_
  rintro σ H Q ⟨G, ρ, d, e, r, hf, k⟩
  obtain ⟨v, a, b⟩ := r.at_ i d hf
  exact ⟨v, a, k v G H (.refl e) b⟩
theorem xc_int {i : Int} {jj} : PE X (.Constant (.int i) jj pos) (tD X.K (cE (.int i))) := by
  refine PE.imp pe_int ?_
  rintro σ H Q ⟨G, ρ, d, e, r, hf, k⟩
  cases hf
  exact k _ G H (.refl e) (.int i)
theorem xc_str {x : Str} {jj} : PE X (.Constant (.str x) jj pos) (tD X.K (cE (.str x))) := by
  refine PE.imp pe_str ?_
  rintro σ H Q ⟨G, ρ, d, e, r, hf, k⟩
  cases hf
  exact k _ G H (.refl e) (.str x)
theorem xc_bl {x : Bool} {jj} : PE X (.Constant (.bool x) jj pos) (tD X.K (cE (.bool x))) := by
  refine PE.imp pe_bl ?_
  rintro σ H Q ⟨G, ρ, d, e, r, hf, k⟩
  cases hf
  exact k _ G H (.refl e) (.bl x)
theorem xc_non {jj} : PE X (.Constant .none jj pos) (tD X.K (cE .none)) := by
  refine PE.imp pe_non ?_
  rintro σ H Q ⟨G, ρ, d, e, r, hf, k⟩
  cases hf
  exact k _ G H (.refl e) .non

/-! ### operators by data -/
def o1 (op : D → Option D) (f : Ev → Option D) : Ev → Option D := fun ρ => match f ρ with
  | some x => op x
  | none => none
def o2 (op : D → D → Option D) (f g : Ev → Option D) : Ev → Option D := fun ρ => match f ρ with
  | some x => (match g ρ with
    | some y => op x y
    | none => none)
  | none => none
theorem o1_some {op : D → Option D} {ρ : Ev} {d : D} (h : o1 op f ρ = some d) : ∃ x, f ρ = some x ∧ op x = some d := by
  unfold o1 at h
  cases e : f ρ with
  | none => rw [e] at h; cases h
  | some x => rw [e] at h; exact ⟨x, rfl, h⟩
theorem o2_some {op : D → D → Option D} {ρ : Ev} {d : D} (h : o2 op f g ρ = some d) : ∃ x y, f ρ = some x ∧ g ρ = some y ∧ op x y = some d := by
  unfold o2 at h
  cases e : f ρ with
  | none => rw [e] at h; cases h
  | some x =>
    rw [e] at h
    cases e2 : g ρ with
    | none => rw [e2] at h; cases h
    | some y => rw [e2] at h; exact ⟨x, y, rfl, rfl, h⟩
/-- r2 of an operation told by data -/
def rD2 (K : PySem.W.Frag) (op : D → D → Option D) : R2 := fun x y H Q => ∃ G dx dy d, Same G H ∧ Rp K G x dx ∧ Rp K G y dy ∧ op dx dy = some d ∧ ∀ v G' H', Grow G H G' H' → Rp K G' v d → Q v H'
def rD1 (K : PySem.W.Frag) (op : D → Option D) : V → Hp → VK → Prop := fun x H Q => ∃ G dx d, Same G H ∧ Rp K G x dx ∧ op dx = some d ∧ ∀ v G' H', Grow G H G' H' → Rp K G' v d → Q v H'
theorem two_D {ta tb : TE} {r : R2} {op : D → D → Option D} (ea : ta = tD X.K f) (eb : tb = tD X.K g) (er : r = rD2 X.K op) : ∀ σ H Q, tD X.K (o2 op f g) σ H Q → tOp r ta tb σ H Q := by
  subst ea eb er
  rintro σ H Q ⟨G, ρ, d, e, r, hf, k⟩
  obtain ⟨x, y, h1, h2, h3⟩ := o2_some hf
  refine ⟨G, ρ, x, e, r, h1, fun v G1 H1 g1 r1 => ?_⟩
  refine ⟨G1, ρ, y, g1.i, r.mono g1.g, h2, fun u G2 H2 g2 r2 => ?_⟩
  exact ⟨G2, x, y, d, g2.i, Rp.mono g2.g _ _ r1, r2, h3, fun v G' H' g3 r3 => k v G' H' (g1.trans (g2.trans g3)) r3⟩
theorem xo2 {op : Operator} {o : D → D → Option D} (ho : OpR X (binaryOp op) (rD2 X.K o)) (ha : PE X a (tD X.K f)) (hb : PE X b (tD X.K g)) : PE X (.BinOp a op b pos) (tD X.K (o2 o f g)) :=
  PE.imp (pe_op ho ha hb) (two_D rfl rfl rfl)
theorem xo1 {op : UnaryOp} {o : D → Option D} (ho : UnR X (unaryOp op) (rD1 X.K o)) (ha : PE X a (tD X.K f)) : PE X (.UnaryOp op a pos) (tD X.K (o1 o f)) := by
  refine PE.imp (pe_un ho ha) ?_
  rintro σ H Q ⟨G, ρ, d, e, r, hf, k⟩
  obtain ⟨x, h1, h3⟩ := o1_some hf
  refine ⟨G, ρ, x, e, r, h1, fun v G1 H1 g1 r1 => ?_⟩
  exact ⟨G1, x, d, g1.i, r1, h3, fun v G' H' g3 r3 => k v G' H' (g1.trans g3) r3⟩
theorem xcmp {op : CmpOp} {o : D → D → Option D} (ho : OpR X (compareOp op) (rD2 X.K o)) (ha : PE X a (tD X.K f)) (hb : PE X b (tD X.K g)) (hm : behindInMarks op b = false) : PE X (.Compare a [op] [b] pos) (tD X.K (o2 o f g)) :=
  PE.imp (pe_cmpR ho ha hb hm) (two_D rfl rfl rfl)
def toB (f : Ev → Option D) : Ev → Option Bool := fun ρ => match f ρ with
  | some (.bool b) => some b
  | _ => none
theorem toB_some {ρ : Ev} {b : Bool} (h : toB f ρ = some b) : f ρ = some (.bool b) := by
  unfold toB at h
  split at h
  · next b' e => rw [e]; cases h; rfl
  · cases h
theorem tB_D {t : TE} (w : ∀ σ H Q, tD X.K f σ H Q → t σ H Q) : ∀ σ H Q, bD (toB f) X.K σ H Q → (t σ H fun x H1 => ∃ c, x = .bl c ∧ Q c H1) := by
  rintro σ H Q ⟨G, ρ, d, e, r, hf, k⟩
  refine w _ _ _ ⟨G, ρ, _, e, r, toB_some hf, fun v G1 H1 g1 r1 => ?_⟩
  cases r1
  exact ⟨d, rfl, k G1 H1 g1⟩
theorem tcmp {op : CmpOp} {o : D → D → Option D} (ho : OpR X (compareOp op) (rD2 X.K o)) (ha : PE X a (tD X.K f)) (hb : PE X b (tD X.K g)) (hm : behindInMarks op b = false) : PT X (.Compare a [op] [b] pos) (bD (toB (o2 o f g)) X.K) :=
  PT.imp (pt_cmpR ho ha hb hm) (tB_D (two_D rfl rfl rfl))
/-- a test on an expression whose value is a bool -/
theorem tval (h : PE X e (tD X.K f)) (he : ∀ whole, isTrue e X.env whole = (do let v ← whole; standAt e.pos; holding [v] (truthy v)) := by intro _; rfl) : PT X e (bD (toB f) X.K) :=
  PT.imp (pt_val h he) (tB_D fun _ _ _ z => z)

/-! ### and, or, not, if-else -/
def andB (p q : Ev → Option Bool) : Ev → Option Bool := fun ρ => match p ρ with
  | some true => q ρ
  | some false => some false
  | none => none
def orB (p q : Ev → Option Bool) : Ev → Option Bool := fun ρ => match p ρ with
  | some true => some true
  | some false => q ρ
  | none => none
def notB (p : Ev → Option Bool) : Ev → Option Bool := fun ρ => match p ρ with
  | some b => some (!b)
  | none => none
theorem tand1 (ha : PT X a (bD p X.K)) : PW X (.BoolOp .And [a] pos) (bD p X.K) := pw_and1 ha
theorem tor1 (ha : PT X a (bD p X.K)) : PW X (.BoolOp .Or [a] pos) (bD p X.K) := pw_or1 ha
theorem tand {rest : List Expr} (ha : PT X a (bD p X.K)) (hb : PW X (.BoolOp .And (b :: rest) pos) (bD q X.K)) : PW X (.BoolOp .And (a :: b :: rest) pos) (bD (andB p q) X.K) := by
  refine PW.imp (pw_and ha hb) ?_
  rintro σ H Q ⟨G, ρ, d, e, r, hf, k⟩
  unfold andB at hf
  split at hf
  · next e1 => exact ⟨G, ρ, true, e, r, e1, fun G1 H1 g1 => iteT ⟨G1, ρ, d, g1.i, r.mono g1.g, hf, fun G2 H2 g2 => k G2 H2 (g1.trans g2)⟩⟩
  · next e1 => cases hf; exact ⟨G, ρ, false, e, r, e1, fun G1 H1 g1 => iteF (k G1 H1 g1)⟩
  · cases hf
theorem tor {rest : List Expr} (ha : PT X a (bD p X.K)) (hb : PW X (.BoolOp .Or (b :: rest) pos) (bD q X.K)) : PW X (.BoolOp .Or (a :: b :: rest) pos) (bD (orB p q) X.K) := by
  refine PW.imp (pw_or ha hb) ?_
  rintro σ H Q ⟨G, ρ, d, e, r, hf, k⟩
  unfold orB at hf
  split at hf
  · next e1 => cases hf; exact ⟨G, ρ, true, e, r, e1, fun G1 H1 g1 => iteT (k G1 H1 g1)⟩
  · next e1 => exact ⟨G, ρ, false, e, r, e1, fun G1 H1 g1 => iteF ⟨G1, ρ, d, g1.i, r.mono g1.g, hf, fun G2 H2 g2 => k G2 H2 (g1.trans g2)⟩⟩
  · cases hf
theorem tnot (ha : PT X a (bD p X.K)) : PT X (.UnaryOp .Not a pos) (bD (notB p) X.K) := by
  refine PT.imp (pt_not ha) ?_
  rintro σ H Q ⟨G, ρ, d, e, r, hf, k⟩
  unfold notB at hf
  split at hf
  · next b e1 => cases hf; exact ⟨G, ρ, b, e, r, e1, fun G1 H1 g1 => k G1 H1 g1⟩
  · cases hf
def andV (f g : Ev → Option D) : Ev → Option D := fun ρ => match f ρ with
  | some (.bool true) => g ρ
  | some (.bool false) => some (.bool false)
  | _ => none
def orV (f g : Ev → Option D) : Ev → Option D := fun ρ => match f ρ with
  | some (.bool true) => some (.bool true)
  | some (.bool false) => g ρ
  | _ => none
def notV (f : Ev → Option D) : Ev → Option D := fun ρ => match f ρ with
  | some (.bool b) => some (.bool (!b))
  | _ => none
theorem xone {op} (h : PE X a (tD X.K f)) : PE X (.BoolOp op [a] pos) (tD X.K f) := pe_one h
theorem xand {rest : List Expr} (ha : PE X a (tD X.K f)) (hb : PE X (.BoolOp .And (b :: rest) pos) (tD X.K g)) : PE X (.BoolOp .And (a :: b :: rest) pos) (tD X.K (andV f g)) := by
  refine PE.imp (pe_and ha hb) ?_
  rintro σ H Q ⟨G, ρ, d, e, r, hf, k⟩
  unfold andV at hf
  split at hf
  · next e1 =>
    refine ⟨G, ρ, _, e, r, e1, fun v G1 H1 g1 r1 => ?_⟩
    cases r1
    exact ⟨true, rfl, iteT ⟨G1, ρ, d, g1.i, r.mono g1.g, hf, fun v G2 H2 g2 => k v G2 H2 (g1.trans g2)⟩⟩
  · next e1 =>
    cases hf
    refine ⟨G, ρ, _, e, r, e1, fun v G1 H1 g1 r1 => ?_⟩
    cases r1
    exact ⟨false, rfl, iteF (k _ G1 H1 g1 (.bl false))⟩
  · cases hf
theorem xor {rest : List Expr} (ha : PE X a (tD X.K f)) (hb : PE X (.BoolOp .Or (b :: rest) pos) (tD X.K g)) : PE X (.BoolOp .Or (a :: b :: rest) pos) (tD X.K (orV f g)) := by
  refine PE.imp (pe_or ha hb) ?_
  rintro σ H Q ⟨G, ρ, d, e, r, hf, k⟩
  unfold orV at hf
  split at hf
  · next e1 =>
    cases hf
    refine ⟨G, ρ, _, e, r, e1, fun v G1 H1 g1 r1 => ?_⟩
    cases r1
    exact ⟨true, rfl, iteT (k _ G1 H1 g1 (.bl true))⟩
  · next e1 =>
    refine ⟨G, ρ, _, e, r, e1, fun v G1 H1 g1 r1 => ?_⟩
    cases r1
    exact ⟨false, rfl, iteF ⟨G1, ρ, d, g1.i, r.mono g1.g, hf, fun v G2 H2 g2 => k v G2 H2 (g1.trans g2)⟩⟩
  · cases hf
theorem xnot (ha : PE X a (tD X.K f)) : PE X (.UnaryOp .Not a pos) (tD X.K (notV f)) := by
  refine PE.imp (pe_not ha) ?_
  rintro σ H Q ⟨G, ρ, d, e, r, hf, k⟩
  unfold notV at hf
  split at hf
  · next b e1 =>
    cases hf
    refine ⟨G, ρ, _, e, r, e1, fun v G1 H1 g1 r1 => ?_⟩
    cases r1
    exact ⟨b, rfl, k _ G1 H1 g1 (.bl _)⟩
  · cases hf
def ifE (p : Ev → Option Bool) (f g : Ev → Option D) : Ev → Option D := fun ρ => match p ρ with
  | some true => f ρ
  | some false => g ρ
  | none => none
theorem xif (hc : PT X c (bD p X.K)) (ha : PE X a (tD X.K f)) (hb : PE X b (tD X.K g)) : PE X (.IfExp c a b pos) (tD X.K (ifE p f g)) := by
  refine PE.imp (pe_ifExp hc ha hb) ?_
  rintro σ H Q ⟨G, ρ, d, e, r, hf, k⟩
  unfold ifE at hf
  split at hf
  · next e1 => exact ⟨G, ρ, true, e, r, e1, fun G1 H1 g1 => iteT ⟨G1, ρ, d, g1.i, r.mono g1.g, hf, fun v G2 H2 g2 => k v G2 H2 (g1.trans g2)⟩⟩
  · next e1 => exact ⟨G, ρ, false, e, r, e1, fun G1 H1 g1 => iteF ⟨G1, ρ, d, g1.i, r.mono g1.g, hf, fun v G2 H2 g2 => k v G2 H2 (g1.trans g2)⟩⟩
  · cases hf

/-! ### argument lists, displays -/
def nilA : Ev → Option (List D) := fun _ => some []
def consA (f : Ev → Option D) (h : Ev → Option (List D)) : Ev → Option (List D) := fun ρ => match f ρ with
  | some d => (match h ρ with
    | some ds => some (d :: ds)
    | none => none)
  | none => none
theorem an : PA X [] (aD X.K nilA) := by
  refine PA.imp pa_nil ?_
  rintro σ H Q ⟨G, ρ, d, e, r, hf, k⟩
  cases hf
  exact k [] G H (.refl e) .nil
theorem ac (ha : PE X e (tD X.K f)) (hr : PA X es (aD X.K h)) (hs : starEach (e :: es) X.env = (false, eval e X.env) :: starEach es X.env := by rfl) : PA X (e :: es) (aD X.K (consA f h)) := by
  refine PA.imp (pa_cons ha hr hs) ?_
  rintro σ H Q ⟨G, ρ, d, e, r, hf, k⟩
  unfold consA at hf
  split at hf
  · next x e1 =>
    split at hf
    · next xs e2 =>
      cases hf
      exact ⟨G, ρ, x, e, r, e1, fun v G1 H1 g1 r1 => ⟨G1, ρ, xs, g1.i, r.mono g1.g, e2, fun vs G2 H2 g2 r2 => k _ G2 H2 (g1.trans g2) (.cons (Rp.mono g2.g _ _ r1) r2)⟩⟩
    · cases hf
  · cases hf
def lim : Nat := 65536
theorem lim_line {n : Nat} (h : n ≤ lim) : n ≤ sizeLine := by
  rw [sizeLine_eq]; unfold lim at h; omega
theorem lim_lt {n : Nat} (h : n ≤ lim) : n < sizeLine := by
  rw [sizeLine_eq]; unfold lim at h; omega
def mkT (ds : List D) : Option D := match Nat.ble ds.length lim with
  | true => some (.tuple ds)
  | false => none
def mkL (ds : List D) : Option D := match Nat.ble ds.length lim with
  | true => some (.list ds)
  | false => none
theorem mkT_some {ds : List D} {d : D} (h : mkT ds = some d) : ds.length ≤ lim ∧ d = .tuple ds := by
  unfold mkT at h
  split at h
  · next e => cases h; exact ⟨Nat.le_of_ble_eq_true e, rfl⟩
  · cases h
theorem mkL_some {ds : List D} {d : D} (h : mkL ds = some d) : ds.length ≤ lim ∧ d = .list ds := by
  unfold mkL at h
  split at h
  · next e => cases h; exact ⟨Nat.le_of_ble_eq_true e, rfl⟩
  · cases h
def aE (op : List D → Option D) (h : Ev → Option (List D)) : Ev → Option D := fun ρ => match h ρ with
  | some ds => op ds
  | none => none
theorem aE_some {op : List D → Option D} {ρ : Ev} {d : D} (z : aE op h ρ = some d) : ∃ ds, h ρ = some ds ∧ op ds = some d := by
  unfold aE at z
  split at z
  · next ds e => exact ⟨ds, e, z⟩
  · cases z
theorem xtup {x1} (ha : PA X es (aD X.K h)) : PE X (.Tuple es x1 pos) (tD X.K (aE mkT h)) := by
  refine PE.imp (pe_tup ha) ?_
  rintro σ H Q ⟨G, ρ, d, e, r, hf, k⟩
  obtain ⟨ds, h1, h2⟩ := aE_some hf
  obtain ⟨h3, rfl⟩ := mkT_some h2
  refine ⟨G, ρ, ds, e, r, h1, fun vs G1 H1 g1 r1 => ⟨by rw [r1.length]; exact lim_line h3, fun p hp => ?_⟩⟩
  exact k _ _ _ (g1.trans (.new g1.i hp)) (.tup (.inl (.inl upd_same)) (RpAll.mono (same_new (g1.i.free hp)) _ _ r1))
theorem xlst (ha : PA X es (aD X.K h)) : PE X (.List es pos) (tD X.K (aE mkL h)) := by
  refine PE.imp (pe_lst ha) ?_
  rintro σ H Q ⟨G, ρ, d, e, r, hf, k⟩
  obtain ⟨ds, h1, h2⟩ := aE_some hf
  obtain ⟨h3, rfl⟩ := mkL_some h2
  refine ⟨G, ρ, ds, e, r, h1, fun vs G1 H1 g1 r1 => ⟨by rw [r1.length]; exact lim_line h3, fun p hp => ?_⟩⟩
  exact k _ _ _ (g1.trans (.new g1.i hp)) (.lst upd_same (RpAll.mono (same_new (g1.i.free hp)) _ _ r1))
end
end Mv

/-! part Mv2 -/
set_option maxHeartbeats 4000000
namespace Mv
open PySem PySem.Spec L2

/-! ### plain operations on data -/
def small (i : Int) : Bool := Nat.ble i.natAbs 18446744073709551615
def dAdd : D → D → Option D
  | .int a, .int b => some (.int (a + b))
  | .tuple xs, .tuple ys => mkT (xs ++ ys)
  | .list xs, .list ys => mkL (xs ++ ys)
  | _, _ => none
def dSub : D → D → Option D
  | .int a, .int b => some (.int (a - b))
  | _, _ => none
def dMul : D → D → Option D
  | .int a, .int b => (match small a || small b with
    | true => some (.int (a * b))
    | false => none)
  | .list xs, .int k => (match decide (-1000000 ≤ k) && decide (k ≤ 1000000) && Nat.ble (xs.length * k.toNat) lim with
    | true => some (.list (List.replicate k.toNat xs).flatten)
    | false => none)
  | .tuple xs, .int k => (match !xs.isEmpty && decide (2 ≤ k) && decide (k ≤ 1000) && Nat.ble xs.length 1000 with
    | true => some (.tuple (List.replicate k.toNat xs).flatten)
    | false => none)
  | _, _ => none
def dMod : D → D → Option D
  | .int a, .int b => (match decide (0 < b) with
    | true => some (.int (a % b))
    | false => none)
  | _, _ => none
def dDiv : D → D → Option D
  | .int a, .int b => (match decide (0 < b) && decide (b < 1073741824) with
    | true => some (.int (a / b))
    | false => none)
  | _, _ => none
def dPow : D → D → Option D
  | .int a, .int b => (match decide (0 ≤ b) && decide (b ≤ 1000) && small a with
    | true => some (.int (a ^ b.toNat))
    | false => none)
  | _, _ => none
def dNeg : D → Option D
  | .int a => some (.int (-a))
  | _ => none
def okN : Nat → D → Bool
  | 0, _ => false
  | _ + 1, .none => true
  | _ + 1, .bool _ => true
  | _ + 1, .int _ => true
  | _ + 1, .str x => PyData.strOk x
  | n + 1, .list xs => xs.all (okN n)
  | n + 1, .tuple xs => xs.all (okN n)
  | _ + 1, .dict _ => false
theorem okN_sub : ∀ (n : Nat) (d : D), okN n d = true → d.canLay0 = true ∧ d.depth ≤ n
  | 0, _, h => by cases h
  | n + 1, .none, h => ⟨by simp [PyData.canLay0], by simp [PyData.depth]⟩
  | n + 1, .bool _, h => ⟨by simp [PyData.canLay0], by simp [PyData.depth]⟩
  | n + 1, .int _, h => ⟨by simp [PyData.canLay0], by simp [PyData.depth]⟩
  | n + 1, .str x, h => ⟨by
      have h' : PyData.strOk x = true := h
      simpa [PyData.canLay0] using h', by simp [PyData.depth]⟩
  | n + 1, .list xs, h => by
    have h' : xs.all (okN n) = true := h
    have : PyData.canLayAll0 xs = true ∧ PyData.depthAll xs ≤ n := by
      clear h
      induction xs with
      | nil => exact ⟨by simp [PyData.canLayAll0], by simp [PyData.depthAll]⟩
      | cons y ys ih =>
        rw [List.all_cons, Bool.and_eq_true] at h'
        obtain ⟨a, b⟩ := okN_sub n y h'.1
        obtain ⟨c, e⟩ := ih h'.2
        exact ⟨by simp [PyData.canLayAll0, a, c], by simp only [PyData.depthAll]; omega⟩
    exact ⟨by simp [PyData.canLay0, this.1], by simp only [PyData.depth]; omega⟩
  | n + 1, .tuple xs, h => by
    have h' : xs.all (okN n) = true := h
    have : PyData.canLayAll0 xs = true ∧ PyData.depthAll xs ≤ n := by
      clear h
      induction xs with
      | nil => exact ⟨by simp [PyData.canLayAll0], by simp [PyData.depthAll]⟩
      | cons y ys ih =>
        rw [List.all_cons, Bool.and_eq_true] at h'
        obtain ⟨a, b⟩ := okN_sub n y h'.1
        obtain ⟨c, e⟩ := ih h'.2
        exact ⟨by simp [PyData.canLayAll0, a, c], by simp only [PyData.depthAll]; omega⟩
    exact ⟨by simp [PyData.canLay0, this.1], by simp only [PyData.depth]; omega⟩
  | _ + 1, .dict _, h => by cases h
theorem okN_shaped {n : Nat} {d : D} (hn : n ≤ 64) (h : okN n d = true) : SeqAt.shaped d = true := by
  obtain ⟨a, b⟩ := okN_sub n d h
  show (d.canLay0 && decide (d.depth ≤ 64)) = true
  rw [a, decide_eq_true (by omega)]; rfl
def eqL (f : D → D → Bool) : List D → List D → Bool
  | [], [] => true
  | x :: xs, y :: ys => f x y && eqL f xs ys
  | _, _ => false
def eqN : Nat → D → D → Bool
  | 0, _, _ => false
  | _ + 1, .none, .none => true
  | _ + 1, .bool a, .bool b => a == b
  | _ + 1, .bool a, .int j => (if a then 1 else 0) == j
  | _ + 1, .int i, .bool b => i == (if b then 1 else 0)
  | _ + 1, .int i, .int j => decide (i = j)
  | _ + 1, .str x, .str y => decide (x = y)
  | n + 1, .list xs, .list ys => eqL (eqN n) xs ys
  | n + 1, .tuple xs, .tuple ys => eqL (eqN n) xs ys
  | _ + 1, _, _ => false
theorem eqN_eqv : ∀ (n : Nat) (x y : D), okN n x = true → eqN n x y = PyData.eqv x y
  | 0, _, _, h => by cases h
  | n + 1, x, y, h => by
    have hl : ∀ xs ys : List D, xs.all (okN n) = true → eqL (eqN n) xs ys = PyData.eqvAll xs ys := by
      intro xs
      induction xs with
      | nil => intro ys _; cases ys <;> simp [eqL, PyData.eqvAll]
      | cons a as ih =>
        intro ys h'
        rw [List.all_cons, Bool.and_eq_true] at h'
        cases ys with
        | nil => simp [eqL, PyData.eqvAll]
        | cons b bs => simp only [eqL, PyData.eqvAll]; rw [eqN_eqv n a b h'.1, ih bs h'.2]
    cases x <;> cases y <;> first
      | (simp only [eqN, PyData.eqv]; done)
      | (simp [eqN, PyData.eqv]; done)
      | (simp only [eqN, PyData.eqv]; exact hl _ _ h)
      | (cases h; done)
      | (simp only [eqN, PyData.eqv, Bool.beq_eq_decide_eq]; done)
def dEq (x y : D) : Option D := match okN 8 x && okN 8 y with
  | true => some (.bool (eqN 8 x y))
  | false => none
def dNe (x y : D) : Option D := match okN 8 x && okN 8 y with
  | true => some (.bool (!eqN 8 x y))
  | false => none
def itemsD : D → Option (List D)
  | .list xs => some xs
  | .tuple xs => some xs
  | _ => none
def dIn (x y : D) : Option D := match itemsD y with
  | some ys => (match okN 8 x && okN 8 y with
    | true => some (.bool (ys.any fun z => eqN 8 z x))
    | false => none)
  | none => none
def dNotIn (x y : D) : Option D := match itemsD y with
  | some ys => (match okN 8 x && okN 8 y with
    | true => some (.bool (!ys.any fun z => eqN 8 z x))
    | false => none)
  | none => none
def dCmp (p : Int → Int → Bool) : D → D → Option D
  | .int a, .int b => some (.bool (p a b))
  | _, _ => none
def dLt : D → D → Option D := dCmp fun a b => decide (a < b)
def dLe : D → D → Option D := dCmp fun a b => decide (a ≤ b)
def dGt : D → D → Option D := dCmp fun a b => decide (b < a)
def dGe : D → D → Option D := dCmp fun a b => decide (b ≤ a)
def nthD : List D → Nat → Option D
  | [], _ => none
  | x :: _, 0 => some x
  | _ :: r, n + 1 => nthD r n
theorem nthD_get : ∀ (xs : List D) (n : Nat) (d : D), nthD xs n = some d → xs[n]? = some d
  | [], _, _, h => by cases h
  | _ :: _, 0, _, h => h
  | _ :: r, n + 1, d, h => nthD_get r n d h
def getI (xs : List D) : Int → Option D
  | .ofNat n => nthD xs n
  | .negSucc _ => none
def dIx : D → D → Option D
  | .tuple xs, .int i => getI xs i
  | .list xs, .int i => getI xs i
  | _, _ => none

section
variable {X : Cx} {pins : List (Addr × Obj)} {s : Shared} {σ : L2.St} {H : Hp} {pos : Pos}
theorem op_dAdd : OpR X (binaryOp .Add) (rD2 X.K dAdd) := by
  rintro pins s σ H x y v u Q I rx ry ⟨G, dx, dy, d, e, hx, hy, ho, k⟩
  unfold dAdd at ho
  split at ho
  · cases hx; cases hy; cases ho
    exact op_add pins s σ H _ _ v u Q I rx ry ⟨_, _, rfl, rfl, k _ G H (.refl e) (.int _)⟩
  · obtain ⟨hl, rfl⟩ := mkT_some ho
    cases hx with
    | tup a1 a2 =>
      cases hy with
      | tup b1 b2 =>
        rw [List.length_append, ← a2.length, ← b2.length] at hl
        refine op_catA pins s σ H _ _ v u Q I rx ry ⟨_, _, _, _, rfl, rfl, sqT_same e a1, sqT_same e b1, lim_line hl, fun z => ?_, fun z1 z2 => ?_, fun z1 z2 p hp => ?_⟩
        · subst z; cases a2
          exact k _ G H (.refl e) (.tup b1 b2)
        · subst z2; cases b2
          rw [List.append_nil] at k
          exact k _ G H (.refl e) (.tup a1 a2)
        · exact k _ _ _ (.new e hp) (.tup (.inl (.inl upd_same)) (RpAll.mono (same_new (e.free hp)) _ _ (a2.append b2)))
  · obtain ⟨hl, rfl⟩ := mkL_some ho
    cases hx with
    | lst a1 a2 =>
      cases hy with
      | lst b1 b2 =>
        rw [List.length_append, ← a2.length, ← b2.length] at hl
        refine op_cat pins s σ H _ _ v u Q I rx ry ⟨_, _, _, _, rfl, rfl, e _ _ a1, e _ _ b1, lim_line hl, fun p hp => ?_⟩
        exact k _ _ _ (.new e hp) (.lst upd_same (RpAll.mono (same_new (e.free hp)) _ _ (a2.append b2)))
  · cases ho
theorem op_dSub : OpR X (binaryOp .Sub) (rD2 X.K dSub) := by
  rintro pins s σ H x y v u Q I rx ry ⟨G, dx, dy, d, e, hx, hy, ho, k⟩
  unfold dSub at ho
  split at ho
  · cases hx; cases hy; cases ho
    exact op_sub pins s σ H _ _ v u Q I rx ry ⟨_, _, rfl, rfl, k _ G H (.refl e) (.int _)⟩
  · cases ho
theorem small_of {i : Int} (h : small i = true) : -(2 ^ 64) < i ∧ i < 2 ^ 64 := by
  have := Nat.le_of_ble_eq_true h
  omega
theorem op_dMul : OpR X (binaryOp .Mult) (rD2 X.K dMul) := by
  rintro pins s σ H x y v u Q I rx ry ⟨G, dx, dy, d, e, hx, hy, ho, k⟩
  unfold dMul at ho
  split at ho
  · split at ho
    · next hs =>
      cases hx; cases hy; cases ho
      have hc : CMul _ _ := (Bool.or_eq_true _ _ ▸ hs).elim (fun z => .inl (small_of z)) (fun z => .inr (small_of z))
      exact op_mul pins s σ H _ _ v u Q I rx ry ⟨_, _, rfl, rfl, hc, k _ G H (.refl e) (.int _)⟩
    · cases ho
  · split at ho
    · next hs =>
      cases ho
      rw [Bool.and_eq_true, Bool.and_eq_true] at hs
      obtain ⟨⟨h1, h2⟩, h3⟩ := hs
      have h1 := of_decide_eq_true h1
      have h2 := of_decide_eq_true h2
      have h3 := Nat.le_of_ble_eq_true h3
      cases hy
      cases hx with
      | lst a1 a2 =>
        rw [← a2.length] at h3
        refine op_rep pins s σ H _ _ v u Q I rx ry ⟨_, _, _, rfl, rfl, e _ _ a1, by omega, by omega, lim_line h3, fun p hp => ?_⟩
        exact k _ _ _ (.new e hp) (.lst upd_same (RpAll.mono (same_new (e.free hp)) _ _ (a2.rep _)))
    · cases ho
  · split at ho
    · next hs =>
      cases ho
      rw [Bool.and_eq_true, Bool.and_eq_true, Bool.and_eq_true] at hs
      obtain ⟨⟨⟨h0, h1⟩, h2⟩, h3⟩ := hs
      have h1 := of_decide_eq_true h1
      have h2 := of_decide_eq_true h2
      have h3 := Nat.le_of_ble_eq_true h3
      cases hy
      cases hx with
      | tup a1 a2 =>
        rw [← a2.length] at h3
        refine op_repT pins s σ H _ _ v u Q I rx ry ⟨_, _, _, rfl, rfl, sqT_same e a1, fun z => ?_, h1, h2, h3, fun p hp => ?_⟩
        · subst z; cases a2; cases h0
        · exact k _ _ _ (.new e hp) (.tup (.inl (.inl upd_same)) (RpAll.mono (same_new (e.free hp)) _ _ (a2.rep _)))
    · cases ho
  · cases ho
theorem op_dMod : OpR X (binaryOp .Mod) (rD2 X.K dMod) := by
  rintro pins s σ H x y v u Q I rx ry ⟨G, dx, dy, d, e, hx, hy, ho, k⟩
  unfold dMod at ho
  split at ho
  · split at ho
    · next hs =>
      cases hx; cases hy; cases ho
      exact op_mod pins s σ H _ _ v u Q I rx ry ⟨_, _, rfl, rfl, of_decide_eq_true hs, k _ G H (.refl e) (.int _)⟩
    · cases ho
  · cases ho
theorem op_dDiv : OpR X (binaryOp .FloorDiv) (rD2 X.K dDiv) := by
  rintro pins s σ H x y v u Q I rx ry ⟨G, dx, dy, d, e, hx, hy, ho, k⟩
  unfold dDiv at ho
  split at ho
  · split at ho
    · next hs =>
      cases hx; cases hy; cases ho
      rw [Bool.and_eq_true] at hs
      exact op_fdiv pins s σ H _ _ v u Q I rx ry ⟨_, _, rfl, rfl, ⟨of_decide_eq_true hs.1, of_decide_eq_true hs.2⟩, k _ G H (.refl e) (.int _)⟩
    · cases ho
  · cases ho
theorem op_dPow : OpR X (binaryOp .Pow) (rD2 X.K dPow) := by
  rintro pins s σ H x y v u Q I rx ry ⟨G, dx, dy, d, e, hx, hy, ho, k⟩
  unfold dPow at ho
  split at ho
  · split at ho
    · next hs =>
      cases hx; cases hy; cases ho
      rw [Bool.and_eq_true, Bool.and_eq_true] at hs
      have h1 := of_decide_eq_true hs.1.1
      have h2 := of_decide_eq_true hs.1.2
      have h3 := Nat.le_of_ble_eq_true hs.2
      exact op_pow pins s σ H _ _ v u Q I rx ry ⟨_, _, rfl, rfl, ⟨h1, by omega, by omega⟩, k _ G H (.refl e) (.int _)⟩
    · cases ho
  · cases ho
theorem un_dNeg : UnR X (unaryOp .USub) (rD1 X.K dNeg) := by
  rintro pins s σ H x v Q I rx ⟨G, dx, d, e, hx, ho, k⟩
  unfold dNeg at ho
  split at ho
  · cases hx; cases ho
    exact un_neg pins s σ H _ v Q I rx ⟨_, rfl, k _ G H (.refl e) (.int _)⟩
  · cases ho
theorem op_dEq (hu : X.A.units + 64 < cLine) : OpR X (compareOp .Eq) (rD2 X.K dEq) := by
  rintro pins s σ H x y v u Q I rx ry ⟨G, dx, dy, d, e, hx, hy, ho, k⟩
  unfold dEq at ho
  split at ho
  · next hs =>
    cases ho
    rw [Bool.and_eq_true] at hs
    refine op_eqD hu pins s σ H _ _ v u Q I rx ry ⟨dx, dy, Rp.dp _ _ (Rp.mono e _ _ hx), Rp.dp _ _ (Rp.mono e _ _ hy), okN_shaped (by decide) hs.1, okN_shaped (by decide) hs.2, ?_⟩
    rw [← eqN_eqv 8 dx dy hs.1]
    exact k _ G H (.refl e) (.bl _)
  · cases ho
theorem op_dNe (hu : X.A.units + 64 < cLine) : OpR X (compareOp .NotEq) (rD2 X.K dNe) := by
  rintro pins s σ H x y v u Q I rx ry ⟨G, dx, dy, d, e, hx, hy, ho, k⟩
  unfold dNe at ho
  split at ho
  · next hs =>
    cases ho
    rw [Bool.and_eq_true] at hs
    refine op_neD hu pins s σ H _ _ v u Q I rx ry ⟨dx, dy, Rp.dp _ _ (Rp.mono e _ _ hx), Rp.dp _ _ (Rp.mono e _ _ hy), okN_shaped (by decide) hs.1, okN_shaped (by decide) hs.2, ?_⟩
    rw [← eqN_eqv 8 dx dy hs.1]
    exact k _ G H (.refl e) (.bl _)
  · cases ho
theorem any_eqN {ys : List D} {x : D} (h : ys.all (okN 7) = true) : (ys.any fun z => eqN 8 z x) = ys.any fun z => PyData.eqv z x := by
  induction ys with
  | nil => rfl
  | cons y ys ih =>
    rw [List.all_cons, Bool.and_eq_true] at h
    rw [List.any_cons, List.any_cons, ih h.2]
    have up : ∀ (n : Nat) (d : D), okN n d = true → okN (n + 1) d = true := by
      intro n
      induction n with
      | zero => intro d h; cases h
      | succ n ih2 =>
        intro d h
        cases d with
        | list xs => exact List.all_eq_true.mpr fun z hz => ih2 z (List.all_eq_true.mp h z hz)
        | tuple xs => exact List.all_eq_true.mpr fun z hz => ih2 z (List.all_eq_true.mp h z hz)
        | dict _ => cases h
        | none => rfl
        | bool _ => rfl
        | int _ => rfl
        | str _ => exact h
    rw [eqN_eqv 8 y x (up 7 y h.1)]
theorem op_dIn (hu : X.A.units + 65 < cLine) : OpR X (compareOp .In) (rD2 X.K dIn) := by
  rintro pins s σ H x y v u Q I rx ry ⟨G, dx, dy, d, e, hx, hy, ho, k⟩
  unfold dIn at ho
  split at ho
  · next ys hi =>
    split at ho
    · next hs =>
      cases ho
      rw [Bool.and_eq_true] at hs
      obtain ⟨as, r1⟩ := Dp.reads I _ _ v (Rp.dp _ _ (Rp.mono e _ _ hx)) rx
      obtain ⟨bs, r2⟩ := Dp.reads I _ _ u (Rp.dp _ _ (Rp.mono e _ _ hy)) ry
      have s1 := okN_shaped (by decide) hs.1
      have fin := k (.bl (ys.any fun z => eqN 8 z dx)) G H (.refl e) (.bl _)
      cases dy <;> first | (cases hi; done) | skip
      all_goals (
        cases hi
        rw [any_eqN hs.2] at fin
        have c2 := (okN_sub 8 _ hs.2).1
        first
          | exact SeqAt.in_list_reads r2 r1 (by simpa [PyData.canLay0] using c2) (SeqAt.canLay_of_shaped s1) (PyProof.Rows.room_in_shaped s1 hu) ⟨.bl _, H, I, rfl, fin⟩
          | exact SeqAt.in_tuple_reads r2 r1 (by simpa [PyData.canLay0] using c2) (SeqAt.canLay_of_shaped s1) (PyProof.Rows.room_in_shaped s1 hu) ⟨.bl _, H, I, rfl, fin⟩)
    · cases ho
  · cases ho
theorem op_dNotIn (hu : X.A.units + 65 < cLine) : OpR X (compareOp .NotIn) (rD2 X.K dNotIn) := by
  rintro pins s σ H x y v u Q I rx ry ⟨G, dx, dy, d, e, hx, hy, ho, k⟩
  unfold dNotIn at ho
  split at ho
  · next ys hi =>
    split at ho
    · next hs =>
      cases ho
      rw [Bool.and_eq_true] at hs
      obtain ⟨as, r1⟩ := Dp.reads I _ _ v (Rp.dp _ _ (Rp.mono e _ _ hx)) rx
      obtain ⟨bs, r2⟩ := Dp.reads I _ _ u (Rp.dp _ _ (Rp.mono e _ _ hy)) ry
      have s1 := okN_shaped (by decide) hs.1
      have fin := k (.bl (!ys.any fun z => eqN 8 z dx)) G H (.refl e) (.bl _)
      cases dy <;> first | (cases hi; done) | skip
      all_goals (
        cases hi
        rw [any_eqN hs.2] at fin
        have c2 := (okN_sub 8 _ hs.2).1
        first
          | exact SeqAt.notIn_list_reads r2 r1 (by simpa [PyData.canLay0] using c2) (SeqAt.canLay_of_shaped s1) (PyProof.Rows.room_in_shaped s1 hu) ⟨.bl _, H, I, rfl, fin⟩
          | exact SeqAt.notIn_tuple_reads r2 r1 (by simpa [PyData.canLay0] using c2) (SeqAt.canLay_of_shaped s1) (PyProof.Rows.room_in_shaped s1 hu) ⟨.bl _, H, I, rfl, fin⟩)
    · cases ho
  · cases ho
theorem op_cmp {op : CmpOp} {p : Int → Int → Bool} (h : OpR X (compareOp op) (rI0 fun i j => .bl (p i j))) : OpR X (compareOp op) (rD2 X.K (dCmp p)) := by
  rintro pins s σ H x y v u Q I rx ry ⟨G, dx, dy, d, e, hx, hy, ho, k⟩
  unfold dCmp at ho
  split at ho
  · cases hx; cases hy; cases ho
    exact h pins s σ H _ _ v u Q I rx ry ⟨_, _, rfl, rfl, k _ G H (.refl e) (.bl _)⟩
  · cases ho
theorem op_dLt : OpR X (compareOp .Lt) (rD2 X.K dLt) := op_cmp op_lt
theorem op_dLe : OpR X (compareOp .LtE) (rD2 X.K dLe) := op_cmp op_le
theorem op_dGt : OpR X (compareOp .Gt) (rD2 X.K dGt) := op_cmp op_gt
theorem op_dGe : OpR X (compareOp .GtE) (rD2 X.K dGe) := op_cmp op_ge

/-! ### is None -/
def isN : D → D → Option D := fun x y => match y with
  | .none => some (.bool (match x with | .none => true | _ => false))
  | _ => none
theorem op_dIs : OpR X (compareOp .Is) (rD2 X.K isN) := by
  rintro pins s σ H x y v u Q I rx ry ⟨G, dx, dy, d, e, hx, hy, ho, k⟩
  unfold isN at ho
  split at ho
  · cases hy
    refine op_isN pins s σ H _ _ v u Q I rx ry ⟨rfl, ?_⟩
    cases ho
    have q := fun b => k (.bl b) G H (.refl e)
    cases hx <;> exact q _ (.bl _)
  · cases ho

/-! ### a chain of two comparisons -/
def chE (o o' : D → D → Option D) (f g h : Ev → Option D) : Ev → Option D := fun ρ => match f ρ with
  | some x => (match g ρ with
    | some y => (match o x y with
      | some (.bool true) => (match h ρ with
        | some z => o' y z
        | none => none)
      | some (.bool false) => some (.bool false)
      | _ => none)
    | none => none)
  | none => none
theorem xchain {a b c : Expr} {f g h : Ev → Option D} {op op' : CmpOp} {o o' : D → D → Option D} (ho : OpR X (compareOp op) (rD2 X.K o)) (ho' : OpR X (compareOp op') (rD2 X.K o')) (ha : PE X a (tD X.K f)) (hb : PE X b (tD X.K g)) (hc : PE X c (tD X.K h))
    (hm : lastMarks [op, op'] [b, c] = false := by with_unfolding_all rfl) : PE X (.Compare a [op, op'] [b, c] pos) (tD X.K (chE o o' f g h)) := by
  refine PE.imp (pe_chain ho ho' ha hb hc hm) ?_
  rintro σ H Q ⟨G, ρ, d, e, r, hf, k⟩
  unfold chE at hf
  split at hf
  · next x e1 =>
    split at hf
    · next y e2 =>
      refine ⟨G, ρ, x, e, r, e1, fun v G1 H1 g1 r1 => ⟨G1, ρ, y, g1.i, r.mono g1.g, e2, fun u G2 H2 g2 r2 => ?_⟩⟩
      split at hf
      · next e3 =>
        split at hf
        · next z e4 =>
          refine ⟨G2, x, y, _, g2.i, Rp.mono g2.g _ _ r1, r2, e3, fun w G3 H3 g3 r3 => ?_⟩
          cases r3
          refine ⟨true, rfl, iteT ⟨G3, ρ, z, g3.i, r.mono (g1.g.trans (g2.g.trans g3.g)), e4, fun w' G4 H4 g4 r4 => ?_⟩⟩
          exact ⟨G4, y, z, d, g4.i, Rp.mono (g3.g.trans g4.g) _ _ r2, r4, hf, fun v' G5 H5 g5 r5 => k v' G5 H5 (g1.trans (g2.trans (g3.trans (g4.trans g5)))) r5⟩
        · cases hf
      · next e3 =>
        cases hf
        refine ⟨G2, x, y, _, g2.i, Rp.mono g2.g _ _ r1, r2, e3, fun w G3 H3 g3 r3 => ?_⟩
        cases r3
        exact ⟨false, rfl, iteF (k _ G3 H3 (g1.trans (g2.trans g3)) (.bl false))⟩
      · cases hf
    · cases hf
  · cases hf

/-! ### items, slices -/
theorem ix_D : IxR X (rD2 X.K dIx) := by
  intro ev es pins s σ H x y v u Q I rx ry hh
  obtain ⟨G, dx, dy, d, e, hx, hy, ho, k⟩ := hh
  have get : ∀ {xs : List V} {ds : List D} {i : Int}, RpAll X.K G xs ds → getI ds i = some d → ∃ w, atI xs i = some w ∧ Rp X.K G w d := by
    intro xs ds i r h
    unfold getI at h
    split at h
    · obtain ⟨w, h1, h2⟩ := r.get (nthD_get _ _ _ h)
      exact ⟨w, atI_nat h1, h2⟩
    · cases h
  unfold dIx at ho
  split at ho
  · cases hy
    cases hx with
    | tup a1 a2 =>
      obtain ⟨w, h1, h2⟩ := get a2 ho
      exact ix_tup ev es pins s σ H _ _ v u Q I rx ry ⟨_, _, _, _, rfl, rfl, sqT_same e a1, h1, k w G H (.refl e) h2⟩
  · cases hy
    cases hx with
    | lst a1 a2 =>
      obtain ⟨w, h1, h2⟩ := get a2 ho
      exact ix_list ev es pins s σ H _ _ v u Q I rx ry ⟨_, _, _, _, rfl, rfl, .inl (.inl (e _ _ a1)), h1, k w G H (.refl e) h2⟩
  · cases ho
theorem xix {a b : Expr} {f g : Ev → Option D} (ha : PE X a (tD X.K f)) (hb : PE X b (tD X.K g)) (hs : PlainIx b := by exact fun _ _ => rfl) : PE X (.Subscript a b pos) (tD X.K (o2 dIx f g)) :=
  PE.imp (pe_ix ix_D ha hb hs) (two_D rfl rfl rfl)
/-- an optional part of a slice -/
def pE (f : Option (Ev → Option D)) : Ev → Option (Option Int) := fun ρ => match f with
  | none => some none
  | some f => (match f ρ with
    | some (.int i) => some (some i)
    | _ => none)
def tP (K : PySem.W.Frag) (f : Option (Ev → Option D)) : TO := fun σ H Q => ∃ G ρ o, Same G H ∧ Rs K G σ ρ ∧ pE f ρ = some o ∧ ∀ G' H', Grow G H G' H' → Q o H'
theorem PO.imp {e : Option Expr} {t t' : TO} (x : PO X e t) (w : ∀ σ H Q, t' σ H Q → t σ H Q) : PO X e t' := ⟨fun pins s σ H Q I z => x.run pins s σ H Q I (w σ H Q z)⟩
theorem pno : PO X none (tP X.K none) := by
  refine PO.imp po_none ?_
  rintro σ H Q ⟨G, ρ, d, e, r, hf, k⟩
  cases hf
  exact k G H (.refl e)
theorem psm {a : Expr} {f : Ev → Option D} (h : PE X a (tD X.K f)) : PO X (some a) (tP X.K (some f)) := by
  refine PO.imp (po_some h) ?_
  rintro σ H Q ⟨G, ρ, d, e, r, hf, k⟩
  unfold pE at hf
  dsimp only at hf
  split at hf
  · next i e1 =>
    cases hf
    refine ⟨G, ρ, _, e, r, e1, fun v G1 H1 g1 r1 => ?_⟩
    cases r1
    exact ⟨i, rfl, k G1 H1 g1⟩
  · cases hf
def cutD (xs : List D) (lo hi : Option Int) : List D := (xs.drop (HT.sIx xs.length 0 lo)).take (HT.sIx xs.length xs.length hi - HT.sIx xs.length 0 lo)
def dSl : D → Option Int → Option Int → Option D
  | .tuple xs, lo, hi => some (.tuple (cutD xs lo hi))
  | .list xs, lo, hi => some (.list (cutD xs lo hi))
  | _, _, _ => none
def slE (f : Ev → Option D) (lo hi : Option (Ev → Option D)) : Ev → Option D := fun ρ => match f ρ with
  | some x => (match pE lo ρ with
    | some l => (match pE hi ρ with
      | some h => dSl x l h
      | none => none)
    | none => none)
  | none => none
theorem sl_D : SlR X (fun x lo hi H Q => ∃ G dx d, Same G H ∧ Rp X.K G x dx ∧ dSl dx lo hi = some d ∧ ∀ v G' H', Grow G H G' H' → Rp X.K G' v d → Q v H') := by
  rintro pins s σ H x v vl vu lo hi sl Q I rx hs pl pu ⟨G, dx, d, e, hx, ho, k⟩
  have cut : ∀ {xs : List V} {ds : List D}, RpAll X.K G xs ds → RpAll X.K G (cutV xs lo hi) (cutD ds lo hi) := by
    intro xs ds r
    unfold cutV cutD
    rw [r.length]
    exact (r.drop _).take _
  unfold dSl at ho
  split at ho
  · cases ho
    cases hx with
    | tup a1 a2 =>
      refine sl_tupA pins s σ H _ v vl vu lo hi sl Q I rx hs pl pu ⟨_, _, rfl, sqT_same e a1, fun hw => ?_, fun hw p hp => ?_⟩
      · have q := cut a2
        unfold cutV at q
        rw [hw.1, hw.2, List.drop_zero, Nat.sub_zero, List.take_length] at q
        exact k _ G H (.refl e) (.tup a1 q)
      · exact k _ _ _ (.new e hp) (.tup (.inl (.inl upd_same)) (RpAll.mono (same_new (e.free hp)) _ _ (cut a2)))
  · cases ho
    cases hx with
    | lst a1 a2 =>
      refine sl_list pins s σ H _ v vl vu lo hi sl Q I rx hs pl pu ⟨_, _, rfl, .inl (.inl (e _ _ a1)), fun p hp => ?_⟩
      exact k _ _ _ (.new e hp) (.lst upd_same (RpAll.mono (same_new (e.free hp)) _ _ (cut a2)))
  · cases ho
theorem xslice {a : Expr} {f : Ev → Option D} {lo hi : Option Expr} {l h : Option (Ev → Option D)} {p2 : Pos} (ha : PE X a (tD X.K f)) (hl : PO X lo (tP X.K l)) (hh : PO X hi (tP X.K h)) : PE X (.Subscript a (.Slice lo hi none p2) pos) (tD X.K (slE f l h)) := by
  refine PE.imp (pe_slice sl_D ha hl hh) ?_
  rintro σ H Q ⟨G, ρ, d, e, r, hf, k⟩
  unfold slE at hf
  split at hf
  · next x e1 =>
    split at hf
    · next l' e2 =>
      split at hf
      · next h' e3 =>
        refine ⟨G, ρ, x, e, r, e1, fun v G1 H1 g1 r1 => ⟨G1, ρ, l', g1.i, r.mono g1.g, e2, fun G2 H2 g2 => ⟨G2, ρ, h', g2.i, r.mono (g1.g.trans g2.g), e3, fun G3 H3 g3 => ?_⟩⟩⟩
        exact ⟨G3, x, d, g3.i, Rp.mono (g2.g.trans g3.g) _ _ r1, hf, fun v' G4 H4 g4 r4 => k v' G4 H4 (g1.trans (g2.trans (g3.trans g4))) r4⟩
      · cases hf
    · cases hf
  · cases hf
end
end Mv

/-! part Mv3 -/
set_option maxHeartbeats 4000000
namespace Mv
open PySem PySem.Spec L2

/-! ### calls by values -/
def rA (K : PySem.W.Frag) (op : List D → Option D) : List V → Hp → VK → Prop := fun vs H Q => ∃ G ds d, Same G H ∧ RpAll K G vs ds ∧ op ds = some d ∧ ∀ v G' H', Grow G H G' H' → Rp K G' v d → Q v H'
def spD (K : PySem.W.Frag) (op : List D → Option D) : Sp := fun vs H Q _ => rA K op vs H Q
section
variable {X : Cx} {e a b c : Expr} {es : List Expr} {pos p : Pos} {f g : Ev → Option D} {h : Ev → Option (List D)} {x : Str} {id T : String} {op : List D → Option D}
theorem arg_D {t : TA} {r : List V → Hp → VK → Prop} (et : t = aD X.K h) (er : r = rA X.K op) : ∀ σ H Q, tD X.K (aE op h) σ H Q → tCB r t σ H Q := by
  subst et er
  rintro σ H Q ⟨G, ρ, d, e, r, hf, k⟩
  obtain ⟨ds, h1, h2⟩ := aE_some hf
  exact ⟨G, ρ, ds, e, r, h1, fun vs G1 H1 g1 r1 => ⟨G1, ds, d, g1.i, r1, h2, fun v G' H' g2 r2 => k v G' H' (g1.trans g2) r2⟩⟩
theorem xcallB (hc : CallR X (.builtin id) (rA X.K op)) (hv : bootBuiltins x = some (.builtin id)) (hm : X.mg x = none) (hg : Gl X x) (ha : PA X (e :: es) (aD X.K h)) (hn : x ≠ "__name__" := by decide) (hdb : (x == ("__debug__" : Str)) = false := by decide)
    (he : starEach (e :: es) X.env = (false, eval e X.env) :: starEach es X.env := by rfl) (hpl : (backTo pos (starEach es X.env)).any (·.1) = false := by rfl) : PE X (.Call (.Name x p) (e :: es) [] pos) (tD X.K (aE op h)) :=
  PE.imp (pe_callB hc hg hm hv ha hn hdb he hpl) (arg_D rfl rfl)
theorem xcallTy (hc : CallR X (.type T) (rA X.K op)) (hv : bootBuiltins x = some (.type T)) (hm : X.mg x = none) (hg : Gl X x) (ha : PA X (e :: es) (aD X.K h)) (hn : x ≠ "__name__" := by decide) (hdb : (x == ("__debug__" : Str)) = false := by decide)
    (he : starEach (e :: es) X.env = (false, eval e X.env) :: starEach es X.env := by rfl) (hpl : (backTo pos (starEach es X.env)).any (·.1) = false := by rfl) : PE X (.Call (.Name x p) (e :: es) [] pos) (tD X.K (aE op h)) :=
  PE.imp (pe_callTy hc hg hm hv ha hn hdb he hpl) (arg_D rfl rfl)

def lenD : List D → Option D
  | [.list xs] => some (.int xs.length)
  | [.tuple xs] => some (.int xs.length)
  | _ => none
theorem cl_len : CallR X (.builtin "len") (rA X.K lenD) := by
  rintro pins s σ H xs us Q I r ⟨G, ds, d, e, ra, ho, k⟩
  unfold lenD at ho
  split at ho
  · cases ra with
    | cons a1 a2 =>
      cases a2; cases ho
      cases a1 with
      | lst b1 b2 =>
        refine call_len_seq pins s σ H _ us Q I r ⟨_, _, rfl, .inl (.inl (.inl (e _ _ b1))), ?_⟩
        rw [b2.length]; exact k _ G H (.refl e) (.int _)
  · cases ra with
    | cons a1 a2 =>
      cases a2; cases ho
      cases a1 with
      | tup b1 b2 =>
        refine call_len_seq pins s σ H _ us Q I r ⟨_, _, rfl, .inr (sqT_same e b1), ?_⟩
        rw [b2.length]; exact k _ G H (.refl e) (.int _)
  · cases ho
def tupleD : List D → Option D
  | [.list xs] => some (.tuple xs)
  | [.tuple xs] => some (.tuple xs)
  | _ => none
theorem cl_tuple : CallR X (.type "tuple") (rA X.K tupleD) := by
  rintro pins s σ H xs us Q I r ⟨G, ds, d, e, ra, ho, k⟩
  unfold tupleD at ho
  split at ho
  · cases ra with
    | cons a1 a2 =>
      cases a2; cases ho
      cases a1 with
      | lst b1 b2 =>
        exact call_tuple_of pins s σ H _ us Q I r ⟨_, _, rfl, .inl ⟨.inl (.inl (e _ _ b1)), fun l hl => k _ _ _ (.new e hl) (.tup (.inl (.inl upd_same)) (RpAll.mono (same_new (e.free hl)) _ _ b2))⟩⟩
  · cases ra with
    | cons a1 a2 =>
      cases a2; cases ho
      cases a1 with
      | tup b1 b2 => exact call_tuple_of pins s σ H _ us Q I r ⟨_, _, rfl, .inr ⟨sqT_same e b1, k _ G H (.refl e) (.tup b1 b2)⟩⟩
  · cases ho
def listD : List D → Option D
  | [.list xs] => some (.list xs)
  | [.tuple xs] => some (.list xs)
  | _ => none
theorem cl_list : CallR X (.type "list") (rA X.K listD) := by
  rintro pins s σ H xs us Q I r ⟨G, ds, d, e, ra, ho, k⟩
  unfold listD at ho
  split at ho
  · cases ra with
    | cons a1 a2 =>
      cases a2; cases ho
      cases a1 with
      | lst b1 b2 =>
        exact call_list_of pins s σ H _ us Q I r ⟨_, _, rfl, .inl (.inl (.inl (e _ _ b1))), fun l hl => k _ _ _ (.new e hl) (.lst upd_same (RpAll.mono (same_new (e.free hl)) _ _ b2))⟩
  · cases ra with
    | cons a1 a2 =>
      cases a2; cases ho
      cases a1 with
      | tup b1 b2 =>
        exact call_list_of pins s σ H _ us Q I r ⟨_, _, rfl, .inr (sqT_same e b1), fun l hl => k _ _ _ (.new e hl) (.lst upd_same (RpAll.mono (same_new (e.free hl)) _ _ b2))⟩
  · cases ho
def boolsD : List D → Option (List Bool)
  | [] => some []
  | .bool b :: r => (match boolsD r with
    | some bs => some (b :: bs)
    | none => none)
  | _ => none
theorem boolsD_rp {K : PySem.W.Frag} {G : Hp} : ∀ {ds : List D} {bs : List Bool} {vs : List V}, boolsD ds = some bs → RpAll K G vs ds → vs = bs.map V.bl
  | [], bs, _, h, .nil => by cases h; rfl
  | d :: ds, bs, _, h, .cons a t => by
    unfold boolsD at h
    split at h
    · next z => cases z
    · next b r z =>
      cases z
      split at h
      · next bs' e => cases h; cases a; rw [boolsD_rp e t]; rfl
      · cases h
    · cases h
def allD : List D → Option D
  | [.list xs] => (match boolsD xs with
    | some bs => some (.bool (bs.all _root_.id))
    | none => none)
  | _ => none
theorem cl_all (hc : X.calm = true) : CallR X (.builtin "all") (rA X.K allD) := by
  rintro pins s σ H xs us Q I r ⟨G, ds, d, e, ra, ho, k⟩
  unfold allD at ho
  split at ho
  · next xs' =>
    split at ho
    · next bs eb =>
      cases ra with
      | cons a1 a2 =>
        cases a2; cases ho
        cases a1 with
        | lst b1 b2 =>
          refine cr_all hc pins s σ H _ us Q I r ⟨_, bs, rfl, ?_, k _ G H (.refl e) (.bl _)⟩
          rw [← boolsD_rp eb b2]
          exact .inl (.inl (e _ _ b1))
    · cases ho
  · cases ho
def absD : List D → Option D
  | [.int i] => some (.int (if i < 0 then -i else i))
  | _ => none
theorem cl_abs : CallR X (.builtin "abs") (rA X.K absD) := by
  rintro pins s σ H xs us Q I r ⟨G, ds, d, e, ra, ho, k⟩
  unfold absD at ho
  split at ho
  · cases ra with
    | cons a1 a2 =>
      cases a2; cases ho; cases a1
      exact call_abs pins s σ H _ us Q I r ⟨_, rfl, k _ G H (.refl e) (.int _)⟩
  · cases ho
def maxD : List D → Option D
  | [.int i, .int j] => some (.int (if j > i then j else i))
  | _ => none
theorem cl_max (hc : X.calm = true) : CallR X (.builtin "max") (rA X.K maxD) := by
  rintro pins s σ H xs us Q I r ⟨G, ds, d, e, ra, ho, k⟩
  unfold maxD at ho
  split at ho
  · cases ra with
    | cons a1 a2 =>
      cases a2 with
      | cons a2 a3 =>
        cases a3; cases ho; cases a1; cases a2
        exact call_max2 hc pins s σ H _ us Q I r ⟨_, _, rfl, k _ G H (.refl e) (.int _)⟩
  · cases ho
def minD : List D → Option D
  | [.int i, .int j] => some (.int (if j < i then j else i))
  | _ => none
theorem cl_min (hc : X.calm = true) : CallR X (.builtin "min") (rA X.K minD) := by
  rintro pins s σ H xs us Q I r ⟨G, ds, d, e, ra, ho, k⟩
  unfold minD at ho
  split at ho
  · cases ra with
    | cons a1 a2 =>
      cases a2 with
      | cons a2 a3 =>
        cases a3; cases ho; cases a1; cases a2
        exact call_min2 hc pins s σ H _ us Q I r ⟨_, _, rfl, k _ G H (.refl e) (.int _)⟩
  · cases ho
def intD : List D → Option D
  | [.int i] => some (.int i)
  | [.bool b] => some (.int (if b then 1 else 0))
  | _ => none
theorem cl_int : CallR X (.type "int") (rA X.K intD) := by
  rintro pins s σ H xs us Q I r ⟨G, ds, d, e, ra, ho, k⟩
  unfold intD at ho
  split at ho
  · cases ra with
    | cons a1 a2 =>
      cases a2; cases ho; cases a1
      exact call_int1 pins s σ H _ us Q I r (.inl ⟨_, rfl, k _ G H (.refl e) (.int _)⟩)
  · cases ra with
    | cons a1 a2 =>
      cases a2; cases ho; cases a1
      exact call_int1 pins s σ H _ us Q I r (.inr ⟨_, rfl, k _ G H (.refl e) (.int _)⟩)
  · cases ho

/-! ### isinstance -/
inductive Ty where
  | non | bool | int | str | list | tuple
def Ty.name : Ty → String
  | .non => "NoneType"
  | .bool => "bool"
  | .int => "int"
  | .str => "str"
  | .list => "list"
  | .tuple => "tuple"
def tyD : D → Option Ty
  | .none => some .non
  | .bool _ => some .bool
  | .int _ => some .int
  | .str _ => some .str
  | .list _ => some .list
  | .tuple _ => some .tuple
  | .dict _ => none
def isT : Ty → Ty → Bool
  | .non, .non => true
  | .bool, .bool => true
  | .bool, .int => true
  | .int, .int => true
  | .str, .str => true
  | .list, .list => true
  | .tuple, .tuple => true
  | _, _ => false
theorem isT_ok : ∀ a b : Ty, b ≠ .non → kitB a.name b.name = some (isT a b) := by
  intro a b hb
  cases a <;> cases b <;> first | exact absurd rfl hb | decide +kernel
theorem tyX_of {K : PySem.W.Frag} {H : Hp} {v : V} {d : D} {t : Ty} (r : Rp K H v d) (h : tyD d = some t) : TyX K H v (.type t.name) := by
  cases r with
  | non => cases h; exact .base .non
  | bl b => cases h; exact .base (.bl b)
  | int i => cases h; exact .base (.int i)
  | str x => cases h; exact .base (.str x)
  | lst h1 h2 => cases h; exact .base (.lst h1)
  | tup h1 h2 =>
    cases h
    rcases h1 with (h1 | ⟨o, h1⟩) | ⟨o, its, n, hk, hc, _⟩
    · exact .base (.tup h1)
    · exact .fTuple h1
    · exact .kTuple hk hc
def isiD (T : Ty) : D → Option D := fun d => match tyD d with
  | some t => some (.bool (isT t T))
  | none => none
def isi2D (T U : Ty) : D → Option D := fun d => match tyD d with
  | some t => some (.bool (isT t T || isT t U))
  | none => none
theorem xisi {p2 p3 : Pos} {y : Str} (T : Ty) (hT : T ≠ .non) (hy : bootBuiltins y = some (.type T.name)) (hmi : X.mg "isinstance" = none) (hmy : X.mg y = none) (hgi : Gl X "isinstance") (hgy : Gl X y) (ha : PE X a (tD X.K f)) (hny : y ≠ "__name__" := by decide) (hdy : (y == ("__debug__" : Str)) = false := by decide)
    (hs : starEach [a, .Name y p3] X.env = (false, eval a X.env) :: starEach [.Name y p3] X.env := by rfl) (hs1 : starEach [.Name y p3] X.env = (false, eval (.Name y p3) X.env) :: starEach [] X.env := by rfl)
    (hpl : (backTo pos (starEach [.Name y p3] X.env)).any (·.1) = false := by rfl) : PE X (.Call (.Name "isinstance" p2) [a, .Name y p3] [] pos) (tD X.K (o1 (isiD T) f)) := by
  refine PE.imp (pe_callB call_isi hgi hmi (by decide +kernel) (pa_cons ha (pa_cons (pe_bltn (v := .ty T.name) (u := .type T.name) hgy hmy hy rfl hny hdy) pa_nil hs1) hs) (he := hs) (hpl := hpl)) ?_
  rintro σ H Q ⟨G, ρ, d, e, r, hf, k⟩
  obtain ⟨x, h1, h2⟩ := o1_some hf
  refine ⟨G, ρ, x, e, r, h1, fun v G1 H1 g1 r1 => ?_⟩
  unfold isiD at h2
  split at h2
  · next t et =>
    cases h2
    exact ⟨v, .ty T.name, .type t.name, .type T.name, isT t T, rfl, .ty _, tyX_of (Rp.mono g1.i _ _ r1) et, kit_ty (isT_ok t T hT), k _ G1 H1 g1 (.bl _)⟩
  · cases h2
theorem xisi2 {p2 p3 p4 p5 : Pos} {kk : Nat} {y z : Str} (T U : Ty) (hT : T ≠ .non) (hU : U ≠ .non) (hy : bootBuiltins y = some (.type T.name)) (hz : bootBuiltins z = some (.type U.name)) (hmi : X.mg "isinstance" = none) (hmy : X.mg y = none) (hmz : X.mg z = none) (hgi : Gl X "isinstance") (hgy : Gl X y) (hgz : Gl X z) (ha : PE X a (tD X.K f))
    (hny : y ≠ "__name__" := by decide) (hdy : (y == ("__debug__" : Str)) = false := by decide) (hnz : z ≠ "__name__" := by decide) (hdz : (z == ("__debug__" : Str)) = false := by decide)
    (hs : starEach [a, .Tuple [.Name y p3, .Name z p4] kk p5] X.env = (false, eval a X.env) :: starEach [.Tuple [.Name y p3, .Name z p4] kk p5] X.env := by rfl)
    (hs1 : starEach [.Tuple [.Name y p3, .Name z p4] kk p5] X.env = (false, eval (.Tuple [.Name y p3, .Name z p4] kk p5) X.env) :: starEach [] X.env := by rfl)
    (hs2 : starEach [.Name y p3, .Name z p4] X.env = (false, eval (.Name y p3) X.env) :: starEach [.Name z p4] X.env := by rfl) (hs3 : starEach [.Name z p4] X.env = (false, eval (.Name z p4) X.env) :: starEach [] X.env := by rfl)
    (hpl : (backTo pos (starEach [.Tuple [.Name y p3, .Name z p4] kk p5] X.env)).any (·.1) = false := by rfl) : PE X (.Call (.Name "isinstance" p2) [a, .Tuple [.Name y p3, .Name z p4] kk p5] [] pos) (tD X.K (o1 (isi2D T U) f)) := by
  refine PE.imp (pe_callB call_isiT hgi hmi (by decide +kernel) (pa_cons ha (pa_cons (pe_tup (pa_cons (pe_bltn (v := .ty T.name) (u := .type T.name) hgy hmy hy rfl hny hdy) (pa_cons (pe_bltn (v := .ty U.name) (u := .type U.name) hgz hmz hz rfl hnz hdz) pa_nil hs3) hs2)) pa_nil hs1) hs) (he := hs) (hpl := hpl)) ?_
  rintro σ H Q ⟨G, ρ, d, e, r, hf, k⟩
  obtain ⟨x, h1, h2⟩ := o1_some hf
  refine ⟨G, ρ, x, e, r, h1, fun v G1 H1 g1 r1 => ⟨by show 2 ≤ sizeLine; decide, fun tp htp => ?_⟩⟩
  unfold isi2D at h2
  split at h2
  · next t et =>
    cases h2
    refine ⟨v, tp, [.ty T.name, .ty U.name], .type t.name, [.type T.name, .type U.name], isT t T || isT t U, rfl, upd_same, .cons (.ty _) (.cons (.ty _) .nil), tyX_of (Rp.mono (g1.i.trans (same_new htp)) _ _ r1) et, ?_, k _ G1 _ (g1.trans (.side g1.i htp)) (.bl _)⟩
    refine kitAny_cons (kit_ty (isT_ok t T hT)) (fun e1 => ?_) fun e1 => by rw [e1]; rfl
    rw [e1, Bool.false_or]
    exact kitAny_cons (kit_ty (isT_ok t U hU)) (fun e2 => by rw [e2]; exact kitAny_nil) fun e2 => e2
  · cases h2

/-! ### calls of defs -/
structure Cal (P : Program) (w : World) (K : PySem.W.Frag) (mg : Str → Option Value) (base : Heap) (k : Nat) (x : Str) (op : List D → Option D) : Prop where
  ex : ∃ (f : Addr) (fd : FuncData) (ps : List Str), FnOk P w K mg base CX0 k f fd ps (spD K op) ∧ mg x = some (.ref f) ∧ PySem.W.keepIn K (.ref f) = true ∧ Binds K fd ps []
theorem call_D {t : TA} (et : t = aD X.K h) : ∀ σ H Q, tD X.K (aE op h) σ H Q → tCall (spD X.K op) [] E0 t σ H Q := by
  subst et
  rintro σ H Q ⟨G, ρ, d, e, r, hf, k⟩
  obtain ⟨ds, h1, h2⟩ := aE_some hf
  refine ⟨G, ρ, ds, e, r, h1, fun vs G1 H1 g1 r1 => ?_⟩
  show spD X.K op (vs ++ []) H1 Q E0
  rw [List.append_nil]
  exact ⟨G1, ds, d, g1.i, r1, h2, fun v G' H' g2 r2 => k v G' H' (g1.trans g2) r2⟩
theorem xcall {k j : Nat} (c : Cal X.prog X.w X.K X.mg X.base k x op) (hr : Room j X.A) (hk : k ≤ j) (hg : Gl X x) (ha : PA X (e :: es) (aD X.K h)) (hdb : (x == ("__debug__" : Str)) = false := by decide)
    (he : starEach (e :: es) X.env = (false, eval e X.env) :: starEach es X.env := by rfl) (hpl : (backTo pos (starEach es X.env)).any (·.1) = false := by rfl) : PE X (.Call (.Name x p) (e :: es) [] pos) (tD X.K (aE op h)) := by
  obtain ⟨f, fd, ps, F, hm, kp, b⟩ := c.ex
  exact PE.imp (pe_call F (hr.mono hk) hg hm kp b .nil pass0 ha hdb he hpl) (call_D rfl)
theorem xcall0 {k j : Nat} (c : Cal X.prog X.w X.K X.mg X.base k x op) (hr : Room j X.A) (hk : k ≤ j) (hg : Gl X x) (hdb : (x == ("__debug__" : Str)) = false := by decide) : PE X (.Call (.Name x p) [] [] pos) (tD X.K (aE op nilA)) := by
  obtain ⟨f, fd, ps, F, hm, kp, b⟩ := c.ex
  refine PE.imp (pe_call0 F (hr.mono hk) hg hm kp b .nil pass0 hdb) ?_
  rintro σ H Q ⟨G, ρ, d, e, r, hf, k⟩
  exact ⟨G, [], d, e, .nil, hf, fun v G' H' g2 r2 => k v G' H' g2 r2⟩
end

/-! ### what is walked -/
structure ItD (K : PySem.W.Frag) (J : It) (ds : List D) (G0 : Hp) : Prop where
  go : ∀ G H (i : Nat) d, Same G0 G → Same G H → ds[i]? = some d → J.go i H ∧ ∀ x H', J.yld i H x H' → ∃ G', Grow G H G' H' ∧ Rp K G' x d
  stop : ∀ G H, Same G0 G → Same G H → J.stop ds.length H
def iD (K : PySem.W.Frag) (f : Ev → Option (List D)) : TI := fun σ H R => ∃ G ρ ds, Same G H ∧ Rs K G σ ρ ∧ f ρ = some ds ∧ ∀ J G' H', Grow G H G' H' → ItD K J ds G' → R J H'
theorem itd_list {K : PySem.W.Frag} {G : Hp} {a : Addr} {xs : List V} {ds : List D} (h : G a = some (.lst xs)) (r : RpAll K G xs ds) : ItD K (Itl K a) ds G where
  go := fun G1 H1 i d e1 e2 hd => by
    obtain ⟨v, h1, h2⟩ := r.get hd
    have hs : SqL K H1 a xs := .inl (.inl (e2 _ _ (e1 _ _ h)))
    refine ⟨⟨xs, v, hs, h1⟩, fun x H' y => ?_⟩
    obtain ⟨rfl, y⟩ := y
    have := (y xs hs).symm.trans h1
    cases this
    exact ⟨G1, .refl e2, Rp.mono e1 _ _ h2⟩
  stop := fun G1 H1 e1 e2 => ⟨xs, .inl (.inl (e2 _ _ (e1 _ _ h))), by rw [r.length]; exact Nat.le_refl _⟩
theorem itd_tup {K : PySem.W.Frag} {G : Hp} {a : Addr} {xs : List V} {ds : List D} (h : SqT K G a xs) (r : RpAll K G xs ds) : ItD K (Itt K a) ds G where
  go := fun G1 H1 i d e1 e2 hd => by
    obtain ⟨v, h1, h2⟩ := r.get hd
    have hs : SqT K H1 a xs := sqT_same (e1.trans e2) h
    refine ⟨⟨xs, v, hs, h1⟩, fun x H' y => ?_⟩
    obtain ⟨rfl, y⟩ := y
    have := (y xs hs).symm.trans h1
    cases this
    exact ⟨G1, .refl e2, Rp.mono e1 _ _ h2⟩
  stop := fun G1 H1 e1 e2 => ⟨xs, sqT_same (e1.trans e2) h, by rw [r.length]; exact Nat.le_refl _⟩
def seqE (f : Ev → Option D) : Ev → Option (List D) := fun ρ => match f ρ with
  | some d => itemsD d
  | none => none
section
variable {X : Cx} {e a b c tg l : Expr} {es : List Expr} {pos p : Pos} {f g : Ev → Option D} {h : Ev → Option (List D)}
theorem PI.imp {t t' : TI} (x : PI X tg l t) (w : ∀ σ H Q, t' σ H Q → t σ H Q) : PI X tg l t' := ⟨fun pins s σ H Q I z => x.run pins s σ H Q I (w σ H Q z)⟩
theorem iseq (hl : PE X l (tD X.K f)) : PI X tg l (iD X.K (seqE f)) := by
  refine ⟨fun pins s σ H R I hh => ?_⟩
  obtain ⟨G, ρ, ds, e, r, hf, k⟩ := hh
  unfold seqE at hf
  split at hf
  · next d e1 =>
    unfold itemsD at hf
    split at hf
    · next xs =>
      cases hf
      refine (pi_list hl).run pins s σ H R I ⟨G, ρ, _, e, r, e1, fun v G1 H1 g1 r1 => ?_⟩
      cases r1 with
      | lst a1 a2 => exact ⟨_, rfl, ⟨_, .inl (.inl (g1.i _ _ a1))⟩, k _ G1 H1 g1 (itd_list a1 a2)⟩
    · next xs =>
      cases hf
      refine (pi_tup hl).run pins s σ H R I ⟨G, ρ, _, e, r, e1, fun v G1 H1 g1 r1 => ?_⟩
      cases r1 with
      | tup a1 a2 => exact ⟨_, rfl, ⟨_, sqT_same g1.i a1⟩, k _ G1 H1 g1 (itd_tup a1 a2)⟩
    · cases hf
  · cases hf
/-- range(n) -/
def intsD (n : Nat) : List D := (List.range n).map fun i : Nat => PyData.int i
def rngE (f : Ev → Option D) : Ev → Option (List D) := fun ρ => match f ρ with
  | some (.int j) => (match decide (0 ≤ j) && decide (j ≤ 65536) with
    | true => some (intsD j.toNat)
    | false => none)
  | _ => none
theorem intsD_get (n i : Nat) : (intsD n)[i]? = if i < n then some (PyData.int i) else none := by
  unfold intsD
  rw [List.getElem?_map]
  by_cases hi : i < n
  · rw [List.getElem?_range hi, if_pos hi]; rfl
  · rw [List.getElem?_eq_none (by simpa using hi), if_neg hi]; rfl
theorem intsD_len (n : Nat) : (intsD n).length = n := by unfold intsD; rw [List.length_map, List.length_range]
theorem irange {p : Pos} (hm : X.mg "range" = none) (hg : Gl X "range") (ha : PE X a (tD X.K f)) (hs : starEach [a] X.env = [(false, eval a X.env)] := by rfl) : PI X tg (.Call (.Name "range" p) [a] [] pos) (iD X.K (rngE f)) := by
  refine PI.imp (pi_range1 hg hm (pa_cons ha pa_nil hs) hs) ?_
  rintro σ H R ⟨G, ρ, ds, e, r, hf, k⟩
  unfold rngE at hf
  split at hf
  · next j e1 =>
    split at hf
    · next hs =>
      cases hf
      rw [Bool.and_eq_true] at hs
      have h1 := of_decide_eq_true hs.1
      have h2 := of_decide_eq_true hs.2
      refine ⟨G, ρ, _, e, r, e1, fun v G1 H1 g1 r1 => ?_⟩
      cases r1
      refine ⟨j, rfl, by omega, by omega, k _ G1 H1 g1 ⟨fun G2 H2 i d e2 e3 hd => ?_, fun G2 H2 _ _ => ?_⟩⟩
      · rw [intsD_get] at hd
        split at hd
        · next hi =>
          cases hd
          refine ⟨hi, fun x H' y => ?_⟩
          obtain ⟨rfl, rfl⟩ := y
          refine ⟨G2, .refl e3, ?_⟩
          rw [Int.zero_add]
          exact .int _
        · cases hd
      · rw [intsD_len]; exact Nat.le_refl _
    · cases hf
  · cases hf
/-- zip(x, y) of two lists or two tuples -/
def pairsD : List D → List D → List D
  | x :: xs, y :: ys => .tuple [x, y] :: pairsD xs ys
  | _, _ => []
theorem pairsD_get : ∀ (xs ys : List D) (i : Nat) (d : D), (pairsD xs ys)[i]? = some d → ∃ x y, xs[i]? = some x ∧ ys[i]? = some y ∧ d = .tuple [x, y]
  | x :: xs, y :: ys, 0, d, h => by cases h; exact ⟨x, y, rfl, rfl, rfl⟩
  | x :: xs, y :: ys, i + 1, d, h => pairsD_get xs ys i d h
  | [], _, _, _, h => by simp [pairsD] at h
  | _ :: _, [], _, _, h => by simp [pairsD] at h
theorem pairsD_len : ∀ (xs ys : List D), xs.length ≤ (pairsD xs ys).length ∨ ys.length ≤ (pairsD xs ys).length
  | x :: xs, y :: ys => by
    have := pairsD_len xs ys
    simp only [pairsD, List.length_cons]
    omega
  | [], _ => .inl (Nat.zero_le _)
  | _ :: _, [] => .inr (Nat.zero_le _)
def zipE (f g : Ev → Option D) : Ev → Option (List D) := fun ρ => match f ρ with
  | some (.list xs) => (match g ρ with
    | some (.list ys) => some (pairsD xs ys)
    | _ => none)
  | some (.tuple xs) => (match g ρ with
    | some (.tuple ys) => some (pairsD xs ys)
    | _ => none)
  | _ => none
theorem izip {elts : List Expr} {kk : Nat} {tpos p : Pos} (hm : X.mg "zip" = none) (hg : Gl X "zip") (ha : PE X a (tD X.K f)) (hb : PE X b (tD X.K g))
    (hs : starEach [a, b] X.env = (false, eval a X.env) :: starEach [b] X.env := by rfl) (hs1 : starEach [b] X.env = (false, eval b X.env) :: starEach [] X.env := by rfl) (hpl : (backTo pos (starEach [b] X.env)).any (·.1) = false := by rfl) :
    PI X (.Tuple elts kk tpos) (.Call (.Name "zip" p) [a, b] [] pos) (iD X.K (zipE f g)) := by
  refine PI.imp (RZ.pi_zipA hg hm (pa_cons ha (pa_cons hb pa_nil hs1) hs) hs hpl) ?_
  rintro σ H R ⟨G, ρ, ds, e, r, hf, k⟩
  have tupN : ∀ {G2 H2 : Hp} {T : Addr} {x y : V} {dx dy : D}, Same G2 H2 → H2 T = none → Rp X.K G2 x dx → Rp X.K G2 y dy → ∃ G', Grow G2 H2 G' (upd H2 T (.tup [x, y])) ∧ Rp X.K G' (.ref T) (.tuple [dx, dy]) :=
    fun {G2 H2 T x y dx dy} e2 hT rx ry => ⟨_, .new e2 hT, .tup (.inl (.inl upd_same)) (.cons (Rp.mono (same_new (e2.free hT)) _ _ rx) (.cons (Rp.mono (same_new (e2.free hT)) _ _ ry) .nil))⟩
  unfold zipE at hf
  split at hf
  · next xs e1 =>
    split at hf
    · next ys e2 =>
      cases hf
      refine ⟨G, ρ, _, e, r, e1, fun v G1 H1 g1 r1 => ⟨G1, ρ, _, g1.i, r.mono g1.g, e2, fun u G2 H2 g2 r2 => ?_⟩⟩
      cases r1 with
      | lst a1 a2 =>
        cases r2 with
        | lst b1 b2 =>
          have a1' := g2.g _ _ a1
          have a2' := RpAll.mono g2.g _ _ a2
          refine ⟨_, _, _, _, rfl, .inl ⟨.inl (.inl (g2.i _ _ a1')), .inl (.inl (g2.i _ _ b1)), k _ G2 H2 (g1.trans g2) ⟨fun G3 H3 i d e3 e4 hd => ?_, fun G3 H3 e3 e4 => ?_⟩⟩⟩
          · obtain ⟨x, y, hx, hy, rfl⟩ := pairsD_get _ _ _ _ hd
            obtain ⟨vx, q1, q2⟩ := a2'.get hx
            obtain ⟨vy, q3, q4⟩ := b2.get hy
            have s1 : SqL X.K H3 _ _ := .inl (.inl (e4 _ _ (e3 _ _ a1')))
            have s2 : SqL X.K H3 _ _ := .inl (.inl (e4 _ _ (e3 _ _ b1)))
            refine ⟨⟨_, _, vx, vy, s1, s2, q1, q3⟩, fun z H' hy' => ?_⟩
            obtain ⟨T, x', y', rfl, hT, rfl, f1, f2⟩ := hy'
            have z1 := (f1 _ s1).symm.trans q1
            have z2 := (f2 _ s2).symm.trans q3
            cases z1; cases z2
            exact tupN e4 hT (Rp.mono e3 _ _ q2) (Rp.mono e3 _ _ q4)
          · refine ⟨_, _, .inl (.inl (e4 _ _ (e3 _ _ a1'))), .inl (.inl (e4 _ _ (e3 _ _ b1))), ?_⟩
            rw [a2'.length, b2.length]
            exact pairsD_len _ _
    · cases hf
  · next xs e1 =>
    split at hf
    · next ys e2 =>
      cases hf
      refine ⟨G, ρ, _, e, r, e1, fun v G1 H1 g1 r1 => ⟨G1, ρ, _, g1.i, r.mono g1.g, e2, fun u G2 H2 g2 r2 => ?_⟩⟩
      cases r1 with
      | tup a1 a2 =>
        cases r2 with
        | tup b1 b2 =>
          have a1' := sqT_same g2.g a1
          have a2' := RpAll.mono g2.g _ _ a2
          refine ⟨_, _, _, _, rfl, .inr ⟨sqT_same g2.i a1', sqT_same g2.i b1, k _ G2 H2 (g1.trans g2) ⟨fun G3 H3 i d e3 e4 hd => ?_, fun G3 H3 e3 e4 => ?_⟩⟩⟩
          · obtain ⟨x, y, hx, hy, rfl⟩ := pairsD_get _ _ _ _ hd
            obtain ⟨vx, q1, q2⟩ := a2'.get hx
            obtain ⟨vy, q3, q4⟩ := b2.get hy
            have s1 := sqT_same (e3.trans e4) a1'
            have s2 := sqT_same (e3.trans e4) b1
            refine ⟨⟨_, _, vx, vy, s1, s2, q1, q3⟩, fun z H' hy' => ?_⟩
            obtain ⟨T, x', y', rfl, hT, rfl, f1, f2⟩ := hy'
            have z1 := (f1 _ s1).symm.trans q1
            have z2 := (f2 _ s2).symm.trans q3
            cases z1; cases z2
            exact tupN e4 hT (Rp.mono e3 _ _ q2) (Rp.mono e3 _ _ q4)
          · refine ⟨_, _, sqT_same (e3.trans e4) a1', sqT_same (e3.trans e4) b1, ?_⟩
            rw [a2'.length, b2.length]
            exact pairsD_len _ _
    · cases hf
  · cases hf
end

/-! ### targets -/
inductive Tgt where
  | one (i : Nat)
  | tup (is : List Nat)
def Tgt.slots : Tgt → List Nat
  | .one i => [i]
  | .tup is => is
def setAllE : List Nat → List D → Ev → Option Ev
  | [], [], ρ => some ρ
  | i :: is, d :: ds, ρ => setAllE is ds (stE ρ i (some d))
  | _, _, _ => none
def tgE : Tgt → D → Ev → Option Ev
  | .one i, d, ρ => some (stE ρ i (some d))
  | .tup is, .tuple ds, ρ => setAllE is ds ρ
  | _, _, _ => none
def gD (K : PySem.W.Frag) (tg : Tgt) : TG := fun v σ H Q => ∃ G ρ d ρ', Same G H ∧ Rs K G σ ρ ∧ Rp K G v d ∧ tgE tg d ρ = some ρ' ∧ ∀ σ', Rs K G σ' ρ' → (∀ vs : List Nat, (∀ i ∈ tg.slots, i ∈ vs) → wipe σ' vs = wipe σ vs) → Q σ' H
theorem wipe_get (σ : L2.St) (j : Nat) : ∀ vs : List Nat, (wipe σ vs)[j]? = if j ∈ vs ∧ j < σ.length then some none else σ[j]?
  | [] => by simp [wipe]
  | v :: vs => by
    unfold wipe
    by_cases hv : v = j
    · subst hv
      by_cases hl : v < σ.length
      · rw [List.getElem?_set_self (by rw [wipe_length]; exact hl), if_pos ⟨List.mem_cons_self, hl⟩]
      · rw [List.getElem?_eq_none (by rw [List.length_set, wipe_length]; omega), if_neg (fun z => hl z.2), List.getElem?_eq_none (by omega)]
    · rw [List.getElem?_set_ne hv, wipe_get σ j vs]
      have : (j ∈ v :: vs ∧ j < σ.length) ↔ (j ∈ vs ∧ j < σ.length) := by
        rw [List.mem_cons]
        exact ⟨fun ⟨a, b⟩ => ⟨a.resolve_left (fun z => hv z.symm), b⟩, fun ⟨a, b⟩ => ⟨.inr a, b⟩⟩
      by_cases c : j ∈ vs ∧ j < σ.length
      · rw [if_pos c, if_pos (this.mpr c)]
      · rw [if_neg c, if_neg (fun z => c (this.mp z))]
theorem wipe_set {σ : L2.St} {i : Nat} {x : Option V} {vs : List Nat} (hi : i ∈ vs) : wipe (σ.set i x) vs = wipe σ vs := by
  refine List.ext_getElem? fun j => ?_
  rw [wipe_get, wipe_get, List.length_set]
  by_cases c : j ∈ vs ∧ j < σ.length
  · rw [if_pos c, if_pos c]
  · rw [if_neg c, if_neg c]
    by_cases hj : i = j
    · subst hj
      have : ¬ i < σ.length := fun z => c ⟨hi, z⟩
      rw [List.getElem?_eq_none (by rw [List.length_set]; omega), List.getElem?_eq_none (by omega)]
    · rw [List.getElem?_set_ne hj]
section
variable {X : Cx} {pos : Pos}
theorem PG.imp {tg : Expr} {t t' : TG} (x : PG X tg t) (w : ∀ v σ H Q, t' v σ H Q → t v σ H Q) : PG X tg t' := ⟨fun pins s σ H v u Q I r z => x.run pins s σ H v u Q I r (w v σ H Q z)⟩
theorem g1 {i : Nat} {x : Str} (hN : X.N.Nodup) (hi : X.N[i]? = some x) (hx : Loc X.env.scope x) (hf : X.fn x = true ∨ X.env.scope.names.lookup x = some .local := by first | exact .inl rfl | exact .inr rfl | assumption) : PG X (.Name x pos) (gD X.K (.one i)) := by
  refine PG.imp (pg_name hN hi hx hf) ?_
  rintro v σ H Q ⟨G, ρ, d, ρ', e, r, rv, ht, k⟩
  cases ht
  exact k _ (r.set i rv) fun vs hv => wipe_set (hv i (List.mem_singleton.mpr rfl))
/-- the names of a tuple target -/
structure PGn (X : Cx) (es : List Expr) (is : List Nat) : Prop where
  ex : ∃ t : TGs, PGs X es t ∧ ∀ vs σ H Q, vs.length = is.length → (∀ σ', σ' = (is.zip vs).foldl (fun s p => s.set p.1 (some p.2)) σ → Q σ' H) → t vs σ H Q
theorem gn0 : PGn X [] [] := ⟨_, pgs_nil, fun vs σ H Q hl k => by
  cases vs with
  | nil => exact ⟨rfl, k σ rfl⟩
  | cons _ _ => cases hl⟩
theorem gn1 {e : Expr} {es : List Expr} {i : Nat} {is : List Nat} (h1 : PG X e (gName i)) (h2 : PGn X es is) (hs : (assignEach (e :: es) X.env).map (·.2) = assign e X.env :: (assignEach es X.env).map (·.2) := by rfl) : PGn X (e :: es) (i :: is) := by
  obtain ⟨t, ht, k⟩ := h2.ex
  refine ⟨_, pgs_cons h1 ht hs, fun vs σ H Q hl kk => ?_⟩
  cases vs with
  | nil => cases hl
  | cons v vs => exact ⟨v, vs, rfl, k vs _ H Q (by simpa using hl) fun σ' e => kk σ' (by rw [e]; rfl)⟩
theorem gt {es : List Expr} {k : Nat} {is : List Nat} (hc : X.calm = true) (h : PGn X es is) (hn : (assignEach es X.env).length = is.length := by rfl) (hst : (assignEach es X.env).findIdx? (·.1) = none := by rfl) : PG X (.Tuple es k pos) (gD X.K (.tup is)) := by
  obtain ⟨t, ht, kk⟩ := h.ex
  refine PG.imp (pg_tup hc ht hn hst) ?_
  rintro v σ H Q ⟨G, ρ, d, ρ', e, r, rv, htg, k⟩
  have fold : ∀ (is : List Nat) (ds : List D) (xs : List V) (σ : L2.St) (ρ ρ' : Ev), setAllE is ds ρ = some ρ' → RpAll X.K G xs ds → Rs X.K G σ ρ → is.length = xs.length ∧ Rs X.K G ((is.zip xs).foldl (fun s p => s.set p.1 (some p.2)) σ) ρ' ∧ ∀ vs : List Nat, (∀ i ∈ is, i ∈ vs) → wipe ((is.zip xs).foldl (fun s p => s.set p.1 (some p.2)) σ) vs = wipe σ vs := by
    intro is
    induction is with
    | nil =>
      intro ds xs σ ρ ρ' h r1 r2
      cases ds with
      | nil => cases h; cases r1; exact ⟨rfl, r2, fun _ _ => rfl⟩
      | cons _ _ => cases h
    | cons i is ih =>
      intro ds xs σ ρ ρ' h r1 r2
      cases ds with
      | nil => cases h
      | cons d ds =>
        cases r1 with
        | cons a1 a2 =>
          obtain ⟨q1, q2, q3⟩ := ih ds _ _ _ _ h a2 (r2.set i a1)
          refine ⟨by simpa using q1, q2, fun vs hv => (q3 vs fun j hj => hv j (List.mem_cons_of_mem _ hj)).trans (wipe_set (hv i List.mem_cons_self))⟩
  cases d <;> first | (cases htg; done) | skip
  cases rv with
  | tup a1 a2 =>
    obtain ⟨q1, q2, q3⟩ := fold _ _ _ _ _ _ htg a2 r
    exact ⟨_, _, rfl, sqT_same e a1, q1.symm, kk _ _ _ _ q1.symm fun σ' es => by rw [es]; exact k _ q2 q3⟩
end
end Mv

/-! part Mv4 -/
set_option maxHeartbeats 4000000
namespace Mv
open PySem PySem.Spec L2

/-! ### comprehensions -/
def compL (tg : Tgt) (ft : Ev → Option Bool) (fe : Ev → Option D) (ρ : Ev) : List D → Option (List D)
  | [] => some []
  | d :: ds => (match tgE tg d ρ with
    | some ρ1 => (match ft ρ1 with
      | some true => (match fe ρ1 with
        | some y => (match compL tg ft fe ρ ds with
          | some ys => some (y :: ys)
          | none => none)
        | none => none)
      | some false => compL tg ft fe ρ ds
      | none => none)
    | none => none)
def compE (fi : Ev → Option (List D)) (tg : Tgt) (own : List Nat) (ft : Ev → Option Bool) (fe : Ev → Option D) : Ev → Option D := fun ρ => match fi ρ with
  | some ds => (match Nat.ble ds.length lim with
    | true => (match compL tg ft fe (wipeE ρ own) ds with
      | some ys => some (.list ys)
      | none => none)
    | false => none)
  | none => none
def yesB : Ev → Option Bool := fun _ => some true
structure PTsD (X : Cx) (ifs : List Expr) (p : Ev → Option Bool) : Prop where
  ex : PTs X ifs (bD p X.K)
theorem PTs.imp {X : Cx} {ifs : List Expr} {t t' : TT} (x : PTs X ifs t) (w : ∀ σ H Q, t' σ H Q → t σ H Q) : PTs X ifs t' := ⟨fun pins s σ H Q I z => x.run pins s σ H Q I (w σ H Q z)⟩
theorem ts0 {X : Cx} : PTs X [] (bD yesB X.K) := by
  refine PTs.imp pts_nil ?_
  rintro σ H Q ⟨G, ρ, d, e, r, hf, k⟩
  cases hf
  exact k G H (.refl e)
theorem ts1 {X : Cx} {c : Expr} {p : Ev → Option Bool} (h : PT X c (bD p X.K)) : PTs X [c] (bD p X.K) := pts_one h

theorem wipe_wipe (σ : L2.St) (vs : List Nat) : wipe (wipe σ vs) vs = wipe σ vs := by
  refine List.ext_getElem? fun j => ?_
  rw [wipe_get, wipe_get, wipe_length]
  by_cases c : j ∈ vs ∧ j < σ.length
  · rw [if_pos c, if_pos c]
  · rw [if_neg c, if_neg c]
theorem comp_turns {K : PySem.W.Frag} {J : It} {ds ys : List D} {tg : Tgt} {vs : List Nat} {ft : Ev → Option Bool} {fe : Ev → Option D} {σ : L2.St} {ρ : Ev} {G0 H0 G1 H1 : Hp} {Q : VK} (hsub : ∀ i ∈ tg.slots, i ∈ vs) (r : Rs K G0 σ ρ) (g1 : Grow G0 H0 G1 H1) (it : ItD K J ds G1)
    (hlim : ds.length ≤ lim) (hc : compL tg ft fe (wipeE ρ vs) ds = some ys) (k : ∀ v G' H', Grow G1 H1 G' H' → Rp K G' v (.list ys) → Q v H') :
    ∀ Dd, H1 Dd = none → ∃ W : Nat → Nat → Hp → Prop, (∃ m, W 0 m (upd H1 Dd (.lst []))) ∧ ∀ i m H, W i m H →
      (J.stop i H ∧ Q (.ref Dd) H) ∨ (J.go i H ∧ ∃ Nx : Hp → Prop, (∀ H', Nx H' → ∃ m', m' < m ∧ W (i + 1) m' H') ∧ ∀ x H', J.yld i H x H' → gD K tg x (wipe σ vs) H' fun σ2 H2 => wipe σ2 vs = wipe σ vs ∧ bD ft K σ2 H2 fun b H3 =>
        if b = true then tD K fe σ2 H3 fun y H4 => ∃ acc, H4 Dd = some (.lst acc) ∧ acc.length < sizeLine ∧ Nx (upd H4 Dd (.lst (acc ++ [y]))) else Nx H3) := by
  intro Dd hD
  -- what holds ahead of turn i
  let W0 : Nat → Hp → Prop := fun i H => i ≤ ds.length ∧ ∃ G acc yi rest, Grow G1 H1 G H ∧ G Dd = none ∧ H Dd = some (.lst acc) ∧ RpAll K G acc yi ∧ yi.length ≤ i ∧ compL tg ft fe (wipeE ρ vs) (ds.drop i) = some rest ∧ ys = yi ++ rest
  refine ⟨fun i m H => m = ds.length - i ∧ W0 i H, ⟨_, rfl, Nat.zero_le _, G1, [], [], ys, Grow.side g1.i hD, g1.i.free hD, upd_same, .nil, Nat.le_refl _, by rw [List.drop_zero]; exact hc, rfl⟩, ?_⟩
  rintro i m H ⟨rfl, hi, G, acc, yi, rest, gr, gD', hH, ra, hlen, hrest, rfl⟩
  by_cases hlt : i < ds.length
  · have hd : ds[i]? = some ds[i] := List.getElem?_eq_getElem hlt
    obtain ⟨hgo, hy⟩ := it.go G H i _ gr.g gr.i hd
    refine .inr ⟨hgo, W0 (i + 1), fun H' w => ⟨ds.length - (i + 1), by omega, rfl, w⟩, fun x H' yl => ?_⟩
    obtain ⟨G', gr', rx⟩ := hy x H' yl
    rw [List.drop_eq_getElem_cons hlt] at hrest
    unfold compL at hrest
    have hD' : ∀ {G2 H2 : Hp}, Grow G H G2 H2 → G2 Dd = none := fun g => g.n Dd (by rw [hH]; trivial) gD'
    have hH' : ∀ {G2 H2 : Hp}, Grow G H G2 H2 → H2 Dd = some (.lst acc) := fun g => g.h _ _ hH
    split at hrest
    · next ρ1 et =>
      refine ⟨G', _, ds[i], ρ1, gr'.i, (r.mono (g1.g.trans (gr.g.trans gr'.g))).wipe vs, rx, et, fun σ2 r2 hw => ⟨(hw vs hsub).trans (wipe_wipe σ vs), ?_⟩⟩
      split at hrest
      · next eb =>
        refine ⟨G', ρ1, true, gr'.i, r2, eb, fun G2 H2 g2 => iteT ?_⟩
        split at hrest
        · next y ey =>
          split at hrest
          · next ys' eys =>
            cases hrest
            refine ⟨G2, ρ1, y, g2.i, r2.mono g2.g, ey, fun v G3 H3 g3 r3 => ?_⟩
            have gg := gr'.trans (g2.trans g3)
            refine ⟨acc, hH' gg, Nat.lt_of_lt_of_le (show acc.length < lim + 1 by rw [ra.length]; omega) (by rw [sizeLine_eq]; decide), hlt, G3, acc ++ [v], yi ++ [y], ys', ?_, hD' gg, upd_same, (RpAll.mono gg.g _ _ ra).append (.cons r3 .nil), by rw [List.length_append]; simp; omega, eys, by simp⟩
            -- the list at Dd is not part of what stays
            have gt := gr.trans gg
            refine ⟨gt.g, fun b o q => ?_, fun b o q => ?_, gt.n⟩
            · have : b ≠ Dd := fun z => by rw [z, hD' gg] at q; cases q
              rw [upd_ne this]; exact gt.i _ _ q
            · have : b ≠ Dd := fun z => by rw [z, hD] at q; cases q
              rw [upd_ne this]; exact gt.h _ _ q
          · cases hrest
        · cases hrest
      · next eb =>
        refine ⟨G', ρ1, false, gr'.i, r2, eb, fun G2 H2 g2 => iteF ?_⟩
        have gg := gr'.trans g2
        exact ⟨hlt, G2, acc, yi, rest, gr.trans gg, hD' gg, hH' gg, RpAll.mono gg.g _ _ ra, by omega, hrest, rfl⟩
      · cases hrest
    · cases hrest
  · have ei : i = ds.length := by omega
    subst ei
    rw [List.drop_length] at hrest
    cases hrest
    refine .inl ⟨it.stop G H gr.g gr.i, k _ (upd G Dd (.lst acc)) H ?_ ?_⟩
    · refine ⟨fun b o q => ?_, fun b o q => ?_, gr.h, fun b h1 h2 => ?_⟩
      · have : b ≠ Dd := fun z => by rw [z, g1.i.free hD] at q; cases q
        rw [upd_ne this]; exact gr.g _ _ q
      · by_cases hb : b = Dd
        · subst hb; rw [upd_same] at q; rw [hH]; exact q
        · rw [upd_ne hb] at q; exact gr.i _ _ q
      · have : b ≠ Dd := fun z => mut_none h1 (by rw [z]; exact hD)
        rw [upd_ne this]; exact gr.n b h1 h2
    · rw [List.append_nil]
      exact .lst upd_same (RpAll.mono (same_new gD') _ _ ra)

section
variable {X : Cx} {elt tg iter : Expr} {ifs : List Expr} {scope : Scope} {pos : Pos} {fi : Ev → Option (List D)} {ft : Ev → Option Bool} {fe : Ev → Option D}
theorem lc_D {own : List (Str × Nat)} {t : Tgt} (hsub : ∀ i ∈ t.slots, i ∈ own.map (·.2)) : ∀ σ H Q, tD X.K (compE fi t (own.map (·.2)) ft fe) σ H Q → tLc (iD X.K fi) (gD X.K t) (bD ft X.K) (tD X.K fe) (own.map (·.2)) σ H Q := by
  rintro σ H Q ⟨G, ρ, d, e, r, hf, k⟩
  unfold compE at hf
  split at hf
  · next ds e1 =>
    split at hf
    · next hl =>
      split at hf
      · next ys e2 =>
        cases hf
        exact ⟨G, ρ, ds, e, r, e1, fun J G1 H1 g1 it => comp_turns hsub r g1 it (Nat.le_of_ble_eq_true hl) e2 fun v G' H' g2 r2 => k v G' H' (g1.trans g2) r2⟩
      · cases hf
    · cases hf
  · cases hf
theorem xlc (t : Tgt) (own : List (Str × Nat)) (hsub : ∀ i ∈ t.slots, i ∈ own.map (·.2)) (hc : X.calm = true) (hN : X.N.Nodup) (hi : PI X tg iter (iD X.K fi)) (ok : BlkOk X.N X.env.scope scope own)
    (hg : ∀ (s : Shared) (H : Hp) (C : Addr) (cl : List (Str × Addr)) (fp : List Addr), PG (X.blk s H scope (compEnvC scope cl C X.env) fp) tg (gD X.K t)) (ht : ∀ (s : Shared) (H : Hp) (C : Addr) (cl : List (Str × Addr)) (fp : List Addr), PTs (X.blk s H scope (compEnvC scope cl C X.env) fp) ifs (bD ft X.K))
    (he : ∀ (s : Shared) (H : Hp) (C : Addr) (cl : List (Str × Addr)) (fp : List Addr), PE (X.blk s H scope (compEnvC scope cl C X.env) fp) elt (tD X.K fe)) (hs : ∀ x, foldedSetIterable iter X.env x = pure x := by intro _; rfl) :
    PE X (.ListComp elt [⟨tg, iter, ifs, 0⟩] scope pos) (tD X.K (compE fi t (own.map (·.2)) ft fe)) :=
  PE.imp (pe_lc hc hN hi ok hg ht he hs) (lc_D hsub)
end

/-! ### statements -/
def ndE : Ev → Option Out := fun ρ => some (.nx ρ)
def sqE (f g : Ev → Option Out) : Ev → Option Out := fun ρ => match f ρ with
  | some (.nx ρ') => g ρ'
  | r => r
def asE (i : Nat) (f : Ev → Option D) : Ev → Option Out := fun ρ => match f ρ with
  | some d => some (.nx (stE ρ i (some d)))
  | none => none
def atE (t : Tgt) (f : Ev → Option D) : Ev → Option Out := fun ρ => match f ρ with
  | some d => (match tgE t d ρ with
    | some ρ' => some (.nx ρ')
    | none => none)
  | none => none
def paE (is : List Nat) (h : Ev → Option (List D)) : Ev → Option Out := fun ρ => match h ρ with
  | some ds => (match setAllE is ds ρ with
    | some ρ' => some (.nx ρ')
    | none => none)
  | none => none
def rtE (f : Ev → Option D) : Ev → Option Out := fun ρ => match f ρ with
  | some d => some (.rt d)
  | none => none
def isE (p : Ev → Option Bool) (f g : Ev → Option Out) : Ev → Option Out := fun ρ => match p ρ with
  | some true => f ρ
  | some false => g ρ
  | none => none
def nvE : Ev → Option Out := fun _ => none
def loopE (t : Tgt) (fb : Ev → Option Out) : List D → Ev → Option Out
  | [], ρ => some (.nx ρ)
  | d :: ds, ρ => (match tgE t d ρ with
    | some ρ1 => (match fb ρ1 with
      | some (.nx ρ2) => loopE t fb ds ρ2
      | r => r)
    | none => none)
def frE (fi : Ev → Option (List D)) (t : Tgt) (fb : Ev → Option Out) : Ev → Option Out := fun ρ => match fi ρ with
  | some ds => loopE t fb ds ρ
  | none => none
theorem sPost.grow {K : PySem.W.Frag} {G H G' H' : Hp} {De : Ends} (g : Grow G H G' H') : ∀ {o : Out}, sPost K G H De o → sPost K G' H' De o
  | .nx _, h => fun σ' G2 H2 g2 r2 => h σ' G2 H2 (g.trans g2) r2
  | .rt _, h => fun v G2 H2 g2 r2 => h v G2 H2 (g.trans g2) r2
section
variable {X : Cx} {st : Stmt} {rest : List Stmt} {e c tg iter : Expr} {a b : List Stmt} {pos : Pos} {f g : Ev → Option D} {p : Ev → Option Bool} {u v w : Ev → Option Out} {fi : Ev → Option (List D)} {h : Ev → Option (List D)}
theorem zn : PSs X [] (sD X.K ndE) := by
  refine PSs.imp pss_nil ?_
  rintro De σ H ⟨G, ρ, o, e, r, hf, k⟩
  cases hf
  exact k σ G H (.refl e) r
theorem zc (h1 : PS X st (sD X.K u)) (h2 : PSs X rest (sD X.K v)) : PSs X (st :: rest) (sD X.K (sqE u v)) := by
  refine PSs.imp (pss_cons h1 h2) ?_
  rintro De σ H ⟨G, ρ, o, e, r, hf, k⟩
  unfold sqE at hf
  split at hf
  · next ρ' e1 => exact ⟨G, ρ, .nx ρ', e, r, e1, fun σ' G1 H1 g1 r1 => ⟨G1, ρ', o, g1.i, r1, hf, k.grow g1⟩⟩
  · next r0 hn =>
    refine ⟨G, ρ, o, e, r, hf, ?_⟩
    cases o with
    | nx ρ' => exact absurd hf (hn ρ')
    | rt d => exact k
theorem z1 (h1 : PS X st (sD X.K u)) : PSs X [st] (sD X.K u) := pss_one h1
theorem zset {i : Nat} {x : Str} {pos' : Pos} (hN : X.N.Nodup) (hi : X.N[i]? = some x) (hx : Loc X.env.scope x) (he : PE X e (tD X.K f)) (hs : swapsWith e (some (.Name x pos')) pos.line X.env = pure false := by rfl) (hf : X.fn x = true ∨ X.env.scope.names.lookup x = some .local := by first | exact .inl rfl | exact .inr rfl | assumption) :
    PS X (.Assign [.Name x pos'] e pos) (sD X.K (asE i f)) := by
  refine PS.imp (ps_set hN hi hx he hs hf) ?_
  rintro De σ H ⟨G, ρ, o, e, r, hf, k⟩
  unfold asE at hf
  split at hf
  · next d e1 =>
    cases hf
    exact ⟨G, ρ, d, e, r, e1, fun v G1 H1 g1 r1 => k _ G1 H1 g1 ((r.mono g1.g).set i r1)⟩
  · cases hf
/-- name = [..] on one line, the name a local -/
theorem zsetLc {i : Nat} {y : Str} {py : Pos} {elt tg iter : Expr} {ifs : List Expr} {scope : Scope} {pos spos : Pos} {fi : Ev → Option (List D)} {ft : Ev → Option Bool} {fe : Ev → Option D} (t : Tgt) (own : List (Str × Nat)) (hsub : ∀ i ∈ t.slots, i ∈ own.map (·.2)) (hc : X.calm = true) (hN : X.N.Nodup) (hy : X.N[i]? = some y) (hyl : X.env.scope.names.lookup y = some .local)
    (hsw : swapsWith (.ListComp elt [⟨tg, iter, ifs, 0⟩] scope pos) (some (.Name y py)) spos.line X.env = pure true) (hi : PI X tg iter (iD X.K fi)) (ok : BlkOk X.N X.env.scope scope own)
    (hg : ∀ (s : Shared) (H : Hp) (C : Addr) (cl : List (Str × Addr)) (fp : List Addr), PG (X.blk s H scope (compEnvC scope cl C X.env) fp) tg (gD X.K t)) (ht : ∀ (s : Shared) (H : Hp) (C : Addr) (cl : List (Str × Addr)) (fp : List Addr), PTs (X.blk s H scope (compEnvC scope cl C X.env) fp) ifs (bD ft X.K))
    (he : ∀ (s : Shared) (H : Hp) (C : Addr) (cl : List (Str × Addr)) (fp : List Addr), PE (X.blk s H scope (compEnvC scope cl C X.env) fp) elt (tD X.K fe)) (hs : ∀ x, foldedSetIterable iter X.env x = pure x := by intro _; rfl) :
    PS X (.Assign [.Name y py] (.ListComp elt [⟨tg, iter, ifs, 0⟩] scope pos) spos) (sD X.K (asE i (compE fi t (own.map (·.2)) ft fe))) := by
  refine PS.imp (ps_setLc hc hN hy hyl hsw hi ok hg ht he hs) ?_
  rintro De σ H ⟨G, ρ, o, e, r, hf, k⟩
  unfold asE at hf
  split at hf
  · next d e1 =>
    cases hf
    exact lc_D hsub σ H _ ⟨G, ρ, d, e, r, e1, fun v G1 H1 g1 r1 => k _ G1 H1 g1 ((r.mono g1.g).set i r1)⟩
  · cases hf
theorem zasg {t : Tgt} (he : PE X e (tD X.K f)) (hg : PG X tg (gD X.K t)) (hs : swapsWithSole [tg] e pos.line X.env = pure false := by rfl) (hw : swappedStores [tg] e X.env = pure none := by rfl)
    (h1 : (assignEach [tg] X.env).map (·.2) = [assign tg X.env] := by rfl) : PS X (.Assign [tg] e pos) (sD X.K (atE t f)) := by
  refine PS.imp (ps_asg he hg hs hw h1) ?_
  rintro De σ H ⟨G, ρ, o, e, r, hf, k⟩
  unfold atE at hf
  split at hf
  · next d e1 =>
    split at hf
    · next ρ' e2 =>
      cases hf
      exact ⟨G, ρ, d, e, r, e1, fun v G1 H1 g1 r1 => ⟨G1, ρ, d, ρ', g1.i, r.mono g1.g, r1, e2, fun σ' r2 _ => k σ' G1 H1 g1 r2⟩⟩
    · cases hf
  · cases hf
theorem par_D {is : List Nat} {t : TA} {tp : TS} (et : t = aD X.K h) (w : ∀ De σ H, (t σ H fun vs H1 => vs.length = is.length ∧ De.nx ((is.zip vs).foldl (fun s p => s.set p.1 (some p.2)) σ) H1) → tp De σ H) : ∀ De σ H, sD X.K (paE is h) De σ H → tp De σ H := by
  subst et
  rintro De σ H ⟨G, ρ, o, e, r, hf, k⟩
  unfold paE at hf
  split at hf
  · next ds e1 =>
    split at hf
    · next ρ' e2 =>
      cases hf
      refine w De σ H ⟨G, ρ, ds, e, r, e1, fun vs G1 H1 g1 r1 => ?_⟩
      have fold : ∀ (is : List Nat) (ds : List D) (xs : List V) (σ : L2.St) (ρ ρ' : Ev), setAllE is ds ρ = some ρ' → RpAll X.K G1 xs ds → Rs X.K G1 σ ρ → xs.length = is.length ∧ Rs X.K G1 ((is.zip xs).foldl (fun s p => s.set p.1 (some p.2)) σ) ρ' := by
        intro is
        induction is with
        | nil =>
          intro ds xs σ ρ ρ' h r1 r2
          cases ds with
          | nil => cases h; cases r1; exact ⟨rfl, r2⟩
          | cons _ _ => cases h
        | cons i is ih =>
          intro ds xs σ ρ ρ' h r1 r2
          cases ds with
          | nil => cases h
          | cons d ds =>
            cases r1 with
            | cons a1 a2 =>
              obtain ⟨q1, q2⟩ := ih ds _ _ _ _ h a2 (r2.set i a1)
              exact ⟨by simpa using q1, q2⟩
      obtain ⟨q1, q2⟩ := fold _ _ _ _ _ _ e2 r1 (r.mono g1.g)
      exact ⟨q1, k _ G1 H1 g1 q2⟩
    · cases hf
  · cases hf
theorem zpar2 {i j : Nat} {x y : Str} {a b : Expr} {px py pt : Pos} {kt k2 pt2} (hc : X.calm = true) (hN : X.N.Nodup) (hi : X.N[i]? = some x) (hj : X.N[j]? = some y) (hij : i ≠ j)
    (hx : X.env.scope.names.lookup x = some .local) (hy : X.env.scope.names.lookup y = some .local) (ha : PA X [a, b] (aD X.K h))
    (hw : swappedStores [.Tuple [.Name x px, .Name y py] kt pt] (.Tuple [a, b] k2 pt2) X.env = pure (some [x, y]))
    (hs : swapsWithSole [.Tuple [.Name x px, .Name y py] kt pt] (.Tuple [a, b] k2 pt2) pos.line X.env = pure false := by rfl) :
    PS X (.Assign [.Tuple [.Name x px, .Name y py] kt pt] (.Tuple [a, b] k2 pt2) pos) (sD X.K (paE [i, j] h)) := by
  refine PS.imp (ps_par hc hN hi hj hij hx hy ha hw hs) (par_D rfl ?_)
  rintro De σ H ⟨G, ρ, ds, e, r, hf, k⟩
  refine ⟨G, ρ, ds, e, r, hf, fun vs G1 H1 g1 r1 => ?_⟩
  obtain ⟨hl, q⟩ := k vs G1 H1 g1 r1
  match vs, hl, q with
  | [v, w], _, q => exact ⟨v, w, rfl, q⟩
theorem zpar3 {i j l : Nat} {x y z : Str} {a b c : Expr} {px py pz pt : Pos} {kt k2 pt2} (hc : X.calm = true) (hN : X.N.Nodup) (hi : X.N[i]? = some x) (hj : X.N[j]? = some y) (hl : X.N[l]? = some z) (hij : i ≠ j) (hil : i ≠ l) (hjl : j ≠ l)
    (hx : X.env.scope.names.lookup x = some .local) (hy : X.env.scope.names.lookup y = some .local) (hz : X.env.scope.names.lookup z = some .local) (ha : PA X [a, b, c] (aD X.K h))
    (hw : swappedStores [.Tuple [.Name x px, .Name y py, .Name z pz] kt pt] (.Tuple [a, b, c] k2 pt2) X.env = pure (some [x, y, z]))
    (hs : swapsWithSole [.Tuple [.Name x px, .Name y py, .Name z pz] kt pt] (.Tuple [a, b, c] k2 pt2) pos.line X.env = pure false := by rfl) :
    PS X (.Assign [.Tuple [.Name x px, .Name y py, .Name z pz] kt pt] (.Tuple [a, b, c] k2 pt2) pos) (sD X.K (paE [i, j, l] h)) := by
  refine PS.imp (ps_par3 hc hN hi hj hl hij hil hjl hx hy hz ha hw hs) (par_D rfl ?_)
  rintro De σ H ⟨G, ρ, ds, e, r, hf, k⟩
  refine ⟨G, ρ, ds, e, r, hf, fun vs G1 H1 g1 r1 => ?_⟩
  obtain ⟨hl, q⟩ := k vs G1 H1 g1 r1
  match vs, hl, q with
  | [u, v, w], _, q => exact ⟨u, v, w, rfl, q⟩
theorem zret (he : PE X e (tD X.K f)) : PS X (.Return (some e) pos) (sD X.K (rtE f)) := by
  refine PS.imp (ps_ret he) ?_
  rintro De σ H ⟨G, ρ, o, e, r, hf, k⟩
  unfold rtE at hf
  split at hf
  · next d e1 => cases hf; exact ⟨G, ρ, d, e, r, e1, k⟩
  · cases hf
theorem zif (hc : PT X c (bD p X.K)) (ha : PSs X a (sD X.K u)) (hb : PSs X b (sD X.K v)) : PS X (.If c a b pos) (sD X.K (isE p u v)) := by
  refine PS.imp (ps_if hc ha hb) ?_
  rintro De σ H ⟨G, ρ, o, e, r, hf, k⟩
  unfold isE at hf
  split at hf
  · next e1 => exact ⟨G, ρ, true, e, r, e1, fun G1 H1 g1 => iteT ⟨G1, ρ, o, g1.i, r.mono g1.g, hf, k.grow g1⟩⟩
  · next e1 => exact ⟨G, ρ, false, e, r, e1, fun G1 H1 g1 => iteF ⟨G1, ρ, o, g1.i, r.mono g1.g, hf, k.grow g1⟩⟩
  · cases hf
theorem znever : PSs X a (sD X.K nvE) := by
  refine PSs.imp pss_never ?_
  rintro De σ H ⟨G, ρ, o, e, r, hf, k⟩
  cases hf
theorem zfor {t : Tgt} (hp : PassesOwn (model X.prog X.w) X.A X.env X.xe) (hc : X.calm = true) (hi : PI X tg iter (iD X.K fi)) (hg : PG X tg (gD X.K t)) (hb : PSs X b (sD X.K v)) (hs : ∀ x, foldedSetIterable iter X.env x = pure x := by intro _; rfl) : PS X (.For tg iter b [] pos) (sD X.K (frE fi t v)) := by
  refine PS.imp (ps_for hp hc hi hg hb hs) ?_
  rintro De σ H ⟨G, ρ, o, e, r, hf, k⟩
  unfold frE at hf
  split at hf
  · next ds e1 =>
    refine ⟨G, ρ, ds, e, r, e1, fun J G1 H1 g1 it => ?_⟩
    refine ⟨fun i m σ H => m = ds.length - i ∧ i ≤ ds.length ∧ ∃ G2 ρ2, Grow G1 H1 G2 H ∧ Rs X.K G2 σ ρ2 ∧ loopE t v (ds.drop i) ρ2 = some o, ⟨_, rfl, Nat.zero_le _, G1, ρ, .refl g1.i, r.mono g1.g, by rw [List.drop_zero]; exact hf⟩, ?_⟩
    rintro i m σ2 H2 ⟨rfl, hi, G2, ρ2, g2, r2, hl⟩
    by_cases hlt : i < ds.length
    · obtain ⟨hgo, hy⟩ := it.go G2 H2 i _ g2.g g2.i (List.getElem?_eq_getElem hlt)
      refine .inr ⟨hgo, fun σ' H' => i + 1 ≤ ds.length ∧ ∃ G3 ρ3, Grow G1 H1 G3 H' ∧ Rs X.K G3 σ' ρ3 ∧ loopE t v (ds.drop (i + 1)) ρ3 = some o, fun σ' H' w => ⟨ds.length - (i + 1), by omega, rfl, w⟩, fun x H' yl => ?_⟩
      obtain ⟨G3, g3, rx⟩ := hy x H' yl
      rw [List.drop_eq_getElem_cons hlt] at hl
      unfold loopE at hl
      split at hl
      · next ρ1 et =>
        refine ⟨G3, ρ2, _, ρ1, g3.i, r2.mono g3.g, rx, et, fun σ' r3 _ => ?_⟩
        split at hl
        · next ρ4 eb => exact ⟨G3, ρ1, .nx ρ4, g3.i, r3, eb, fun σ'' G5 H5 g5 r5 => ⟨hlt, G5, ρ4, g2.trans (g3.trans g5), r5, hl⟩⟩
        · next r0 hn =>
          refine ⟨G3, ρ1, o, g3.i, r3, hl, ?_⟩
          cases o with
          | nx ρ' => exact absurd hl (hn ρ')
          | rt d => exact fun w G5 H5 g5 r5 => k w G5 H5 (g1.trans (g2.trans (g3.trans g5))) r5
      · cases hl
    · have ei : i = ds.length := by omega
      subst ei
      rw [List.drop_length] at hl
      cases hl
      exact .inl ⟨it.stop G2 H2 g2.g g2.i, k σ2 G2 H2 (g1.trans g2) r2⟩
  · cases hf
end

/-! ### a def, by its body -/
def padE : List D → Nat → Ev
  | [], n => List.replicate n none
  | d :: ds, n + 1 => some d :: padE ds n
  | _ :: _, 0 => []
def endD : Option Out → Option D
  | some (.rt d) => some d
  | some (.nx _) => some .none
  | none => none
def runF (n N : Nat) (fb : Ev → Option Out) : List D → Option D := fun ds => match Nat.beq ds.length n with
  | true => endD (fb (padE ds N))
  | false => none
theorem runF_len {n N : Nat} {fb : Ev → Option Out} {ds : List D} {d : D} (h : runF n N fb ds = some d) : ds.length = n ∧ endD (fb (padE ds N)) = some d := by
  unfold runF at h
  split at h
  · next e => exact ⟨Nat.eq_of_beq_eq_true e, h⟩
  · cases h
theorem pad_len : ∀ (ds : List D) (N : Nat), ds.length ≤ N → (padE ds N).length = N
  | [], N, _ => by simp [padE]
  | d :: ds, N + 1, h => by simp only [padE, List.length_cons]; rw [pad_len ds N (by simpa using h)]
  | _ :: _, 0, h => by simp at h
theorem nth_pad : ∀ (ds : List D) (N i : Nat) (d : D), nth (padE ds N) i = some d → ds[i]? = some d
  | [], N, i, d, h => by
    exfalso
    revert i
    induction N with
    | zero => intro i h; simp [padE, nth] at h
    | succ n ih =>
      intro i h
      cases i with
      | zero => simp [padE, List.replicate_succ, nth] at h
      | succ i => exact ih i (by simpa [padE, List.replicate_succ, nth] using h)
  | x :: ds, N + 1, 0, d, h => by
    have h' : some x = some d := h
    cases h'; rfl
  | x :: ds, N + 1, i + 1, d, h => nth_pad ds N i d h
  | _ :: _, 0, _, _, h => by cases h
theorem rs_start {K : PySem.W.Frag} {G : Hp} {vs : List V} {ds : List D} {N : List Str} (r : RpAll K G vs ds) (hl : ds.length ≤ N.length) : Rs K G (L2.start N vs) (padE ds N.length) := by
  refine ⟨by rw [pad_len ds _ hl]; unfold L2.start; rw [List.length_append, List.length_map, List.length_replicate, r.length]; omega, fun i d h => ?_⟩
  obtain ⟨v, h1, h2⟩ := r.get (nth_pad _ _ _ _ h)
  refine ⟨v, ?_, h2⟩
  unfold L2.start
  have hi : i < vs.length := (List.getElem?_eq_some_iff.mp h1).1
  rw [List.getElem?_append_left (by simpa using hi), List.getElem?_map, h1]
  rfl
section
variable {P : Program} {w : World} {K : PySem.W.Frag} {mg : Str → Option Value} {base : Heap}
theorem fn_D {x : Str} {st : Stmt} {f : Addr} {fd : FuncData} {N ps : List Str} {k : Nat} {fb : Ev → Option Out} (F : Fun K x x st f fd) (S : FnScope N ps (defScope st))
    (hb : ∀ (cdv : Value) (A : Around) (outer : List Env) (s : Shared) (H : Hp) (E : XK), Room k (A.deeper (PyProof.Rows.envOfC x (defScope st) s.heap.objs.size f cdv)) →
      PSs (cxOf CX0 P w K mg base N x (defScope st) f cdv A outer s H E).nox (defBody st) (sD K fb)) : FnOk P w K mg base CX0 (k + 1) f fd ps (spD K (runF ps.length N.length fb)) := by
  have hpl : ps.length ≤ N.length := by have := congrArg List.length S.pre; rw [List.length_take] at this; omega
  refine F.ok S (fun vs H Q E h => ?_) (fun cdv A outer s H vs Q E hr h => ⟨_, hb cdv A outer s H E hr, ?_⟩)
  · obtain ⟨G, ds, d, e, r, ho, k⟩ := h
    rw [r.length]
    exact (runF_len ho).1
  · obtain ⟨G, ds, d, e, r, ho, k⟩ := h
    obtain ⟨hl, ho⟩ := runF_len ho
    unfold endD at ho
    split at ho
    · next d' e1 => cases ho; exact ⟨G, _, _, e, rs_start r (by omega), e1, k⟩
    · next ρ' e1 => cases ho; exact ⟨G, _, _, e, rs_start r (by omega), e1, fun σ' G' H' g' r' => k .non G' H' g' .non⟩
    · cases ho
/-- a def of the top, its name's place, how it binds -/
structure Df (K : PySem.W.Frag) (mg : Str → Option Value) (x : Str) (st : Stmt) (ps : List Str) : Prop where
  ex : ∃ (f : Addr) (fd : FuncData), Fun K x x st f fd ∧ mg x = some (.ref f) ∧ Binds K fd ps []
theorem cal_D {x : Str} {st : Stmt} {N ps : List Str} {k : Nat} {fb : Ev → Option Out} (F : Df K mg x st ps) (S : FnScope N ps (defScope st))
    (hb : ∀ (f : Addr) (cdv : Value) (A : Around) (outer : List Env) (s : Shared) (H : Hp) (E : XK), Room k (A.deeper (PyProof.Rows.envOfC x (defScope st) s.heap.objs.size f cdv)) →
      PSs (cxOf CX0 P w K mg base N x (defScope st) f cdv A outer s H E).nox (defBody st) (sD K fb)) : Cal P w K mg base (k + 1) x (runF ps.length N.length fb) := by
  obtain ⟨f, fd, F, hm, hbi⟩ := F.ex
  exact ⟨f, fd, ps, fn_D F S (hb f), hm, F.kp, hbi⟩
theorem Cal.imp {x : Str} {k : Nat} {op op' : List D → Option D} (c : Cal P w K mg base k x op) (h : ∀ ds d, op' ds = some d → op ds = some d) : Cal P w K mg base k x op' := by
  obtain ⟨f, fd, ps, F, r⟩ := c.ex
  exact ⟨f, fd, ps, F.imp fun vs H Q E ⟨G, ds, d, e, ra, ho, k⟩ => ⟨G, ds, d, e, ra, h ds d ho, k⟩, r⟩
theorem Cal.mono {x : Str} {j k : Nat} {op : List D → Option D} (c : Cal P w K mg base j x op) (h : j ≤ k) : Cal P w K mg base k x op := by
  obtain ⟨f, fd, ps, F, r⟩ := c.ex
  exact ⟨f, fd, ps, F.mono h, r⟩
end
end Mv

/-! part Mv5 -/
set_option maxHeartbeats 4000000
namespace Mv
open PySem PySem.Spec L2
/-! ### the text -/
def topS (i : Nat) : Stmt := PySem.Challenge.pw_movedchest_k25_whole_fewest_turns.main.body.getD i (.Pass ⟨0, 0, 0, 0⟩)
/-- names that the top leaves to the built-ins -/
structure Bt (mg : Str → Option Value) : Prop where
  isinstance : mg "isinstance" = none
  int_ : mg "int" = none
  bool_ : mg "bool" = none
  str_ : mg "str" = none
  list_ : mg "list" = none
  tuple_ : mg "tuple" = none
  len_ : mg "len" = none
  all_ : mg "all" = none
  abs_ : mg "abs" = none
  max_ : mg "max" = none
  min_ : mg "min" = none
  range_ : mg "range" = none
  zip_ : mg "zip" = none
  enumerate_ : mg "enumerate" = none
  sorted_ : mg "sorted" = none
  set_ : mg "set" = none
  ValueError_ : mg "ValueError" = none
/-- a constant of the module -/
structure Gc (K : PySem.W.Frag) (mg : Str → Option Value) (x : Str) (d : D) : Prop where
  ex : ∃ (v : V) (u : Value), mg x = some u ∧ RelV v u ∧ ∀ G, Rp K G v d
theorem u65 {k : Nat} {A : Around} (r : Room k A) : A.units + 65 < cLine := by have := r.un; omega
theorem xgl {X : Cx} {x : Str} {d : D} {pos : Pos} (c : Gc X.K X.mg x d) (hg : Gl X x) (hd : (x == ("__debug__" : Str)) = false := by decide) : PE X (.Name x pos) (tD X.K (cE d)) := by
  obtain ⟨v, u, hm, r, q⟩ := c.ex
  refine PE.imp (pe_glob hg hm r hd) ?_
  rintro σ H Q ⟨G, ρ, d, e, r, hf, k⟩
  cases hf
  exact k v G H (.refl e) (q G)
def i3 (a b c : Int) : D := .tuple [.int a, .int b, .int c]
def ringD : D := .tuple [i3 0 1 2, i3 2 1 0, i3 2 0 1, i3 1 0 2, i3 1 2 0, i3 0 2 1]
def handsD : D := .tuple [.int (-1), .int 1]
section
variable {P : Program} {w : World} {K : PySem.W.Frag} {mg : Str → Option Value} {base : Heap}
/-- no call is promised anything yet: the start of a recursion -/
theorem cal_none {x : Str} {st : Stmt} {ps : List Str} (F : Df K mg x st ps) : Cal P w K mg base 1 x (fun _ => none) := by
  obtain ⟨f, fd, F, hm, hbi⟩ := F.ex
  refine ⟨f, fd, ps, ⟨fun vs H Q E h => ?_, fun A outer s H args us vs Q E _ _ _ _ h => ?_⟩, hm, F.kp, hbi⟩
  · obtain ⟨_, _, _, _, _, z, _⟩ := h; cases z
  · obtain ⟨_, _, _, _, _, z, _⟩ := h; cases z
end
end Mv

/-! part Mv6 -/
set_option maxHeartbeats 4000000
namespace Mv
open PySem PySem.Spec L2

/-! ### lists of the def's own, that change -/
def nlN : Nat → D → Bool
  | 0, _ => false
  | _ + 1, .none => true
  | _ + 1, .bool _ => true
  | _ + 1, .int _ => true
  | _ + 1, .str _ => true
  | n + 1, .tuple xs => xs.all (nlN n)
  | _ + 1, .list _ => false
  | _ + 1, .dict _ => false
theorem Rp.keepT {K : PySem.W.Frag} {H H' : Hp} (e : ∀ a xs, SqT K H a xs → SqT K H' a xs) : ∀ (n : Nat) (d : D) (v : V), nlN n d = true → Rp K H v d → Rp K H' v d
  | 0, _, _, h, _ => by cases h
  | n + 1, d, v, h, r => by
    cases r with
    | non => exact .non
    | bl b => exact .bl b
    | int i => exact .int i
    | str x => exact .str x
    | lst _ _ => cases h
    | @tup a xs ds h1 h2 =>
      refine .tup (e _ _ h1) ?_
      have h' : ds.all (nlN n) = true := h
      have go : ∀ (ds : List D) (ys : List V), RpAll K H ys ds → ds.all (nlN n) = true → RpAll K H' ys ds := by
        intro ds
        induction ds with
        | nil => intro ys q _; cases q; exact .nil
        | cons d ds ih =>
          intro ys q hq
          rw [List.all_cons, Bool.and_eq_true] at hq
          cases q with
          | cons a1 a2 => exact .cons (Rp.keepT e n d _ hq.1 a1) (ih _ a2 hq.2)
      exact go ds xs h2 h'
def mixE : Ev → Ev → Ev
  | x :: xs, some d :: ys => some d :: mixE xs ys
  | x :: xs, none :: ys => x :: mixE xs ys
  | xs, [] => xs
  | [], _ => []
theorem nth_mix : ∀ (ρ ω : Ev) (i : Nat) (d : D), nth (mixE ρ ω) i = some d → nth ω i = some d ∨ nth ρ i = some d
  | x :: xs, some e :: ys, 0, d, h => .inl h
  | x :: xs, some e :: ys, i + 1, d, h => nth_mix xs ys i d h
  | x :: xs, none :: ys, 0, d, h => .inr h
  | x :: xs, none :: ys, i + 1, d, h => nth_mix xs ys i d h
  | [], [], _, _, h => .inr h
  | x :: xs, [], i, d, h => .inr h
  | [], _ :: _, _, _, h => by simp [mixE, nth] at h
theorem mix_len : ∀ (ρ ω : Ev), (mixE ρ ω).length = ρ.length
  | x :: xs, some e :: ys => by show (mixE xs ys).length + 1 = _; rw [mix_len xs ys]; rfl
  | x :: xs, none :: ys => by show (mixE xs ys).length + 1 = _; rw [mix_len xs ys]; rfl
  | [], [] => rfl
  | x :: xs, [] => rfl
  | [], _ :: _ => rfl
structure Ro (K : PySem.W.Frag) (G0 H0 G H : Hp) (σ : L2.St) (ρ ω : Ev) : Prop where
  gr : Grow G0 H0 G H
  rs : Rs K G σ ρ
  ow : ∀ i d, nth ω i = some d → ∃ ds l xs, d = .list ds ∧ σ[i]? = some (some (.ref l)) ∧ H0 l = none ∧ G l = none ∧ H l = some (.lst xs) ∧ RpAll K G xs ds
  ap : ∀ i j di dj l, i ≠ j → nth ω i = some di → nth ω j = some dj → σ[i]? = some (some (.ref l)) → σ[j]? = some (some (.ref l)) → False
section
variable {K : PySem.W.Frag} {G0 H0 G H G1 H1 : Hp} {σ σ' : L2.St} {ρ ρ' ω : Ev}
theorem Ro.grow (r : Ro K G0 H0 G H σ ρ ω) (g : Grow G H G1 H1) : Ro K G0 H0 G1 H1 σ ρ ω :=
  ⟨r.gr.trans g, r.rs.mono g.g, fun i d h => by
    obtain ⟨ds, l, xs, e, h1, h2, h3, h4, h5⟩ := r.ow i d h
    exact ⟨ds, l, xs, e, h1, h2, g.n l (by rw [h4]; trivial) h3, g.h _ _ h4, RpAll.mono g.g _ _ h5⟩, r.ap⟩
theorem nth_clr (ω : Ev) (j : Nat) (d : D) : ∀ is : List Nat, nth (wipeE ω is) j = some d → j ∉ is ∧ nth ω j = some d
  | [], h => ⟨by simp, h⟩
  | i :: is, h => by
    rcases nth_stE (wipeE ω is) i j none d h with ⟨_, z⟩ | ⟨ne, z⟩
    · cases z
    · obtain ⟨h1, h2⟩ := nth_clr ω j d is z
      exact ⟨by simp only [List.mem_cons, not_or]; exact ⟨ne, h1⟩, h2⟩
/-- slots are stored anew -/
theorem Ro.tgt (r : Ro K G0 H0 G H σ ρ ω) (is : List Nat) (r2 : Rs K G σ' ρ') (hw : wipe σ' is = wipe σ is) : Ro K G0 H0 G H σ' ρ' (wipeE ω is) := by
  have same : ∀ j, j ∉ is → σ'[j]? = σ[j]? := fun j hj => by
    have e1 := wipe_get σ' j is
    have e2 := wipe_get σ j is
    rw [if_neg (fun z => hj z.1)] at e1 e2
    rw [← e1, ← e2, hw]
  refine ⟨r.gr, r2, fun i d h => ?_, fun i j di dj l ne h1 h2 h3 h4 => ?_⟩
  · obtain ⟨hi, h⟩ := nth_clr ω i d is h
    obtain ⟨ds, l, xs, e, h1, q⟩ := r.ow i d h
    exact ⟨ds, l, xs, e, by rw [same i hi]; exact h1, q⟩
  · obtain ⟨hi, h1⟩ := nth_clr ω i di is h1
    obtain ⟨hj, h2⟩ := nth_clr ω j dj is h2
    rw [same i hi] at h3
    rw [same j hj] at h4
    exact r.ap i j di dj l ne h1 h2 h3 h4
theorem Ro.set (r : Ro K G0 H0 G H σ ρ ω) (i : Nat) {v : V} {d : D} (h : Rp K G v d) : Ro K G0 H0 G H (σ.set i (some v)) (stE ρ i (some d)) (stE ω i none) :=
  r.tgt [i] (r.rs.set i h) (wipe_set List.mem_cons_self)
/-- a new list of the def's own -/
theorem Ro.own (r : Ro K G0 H0 G H σ ρ ω) (i : Nat) (hi : i < σ.length) {l : Addr} {xs : List V} {ds : List D} (hl : H l = none) (h : RpAll K G xs ds) : Ro K G0 H0 G (upd H l (.lst xs)) (σ.set i (some (.ref l))) (stE ρ i none) (stE ω i (some (.list ds))) := by
  have r2 := r.tgt [i] (r.rs.unset i (some (.ref l))) (wipe_set List.mem_cons_self)
  have g := r.gr.trans (Grow.side (p := l) (o := .lst xs) r.gr.i hl)
  have ne : ∀ {j : Nat} {l' : Addr} {d : D}, nth ω j = some d → σ[j]? = some (some (.ref l')) → l' ≠ l := fun {j l' d} h1 h2 e => by
    obtain ⟨_, l2, _, _, q1, _, _, q4, _⟩ := r.ow j d h1
    rw [h2] at q1; cases q1
    rw [e, hl] at q4; cases q4
  refine ⟨g, r2.rs, fun j d hj => ?_, fun j k dj dk l' njk h1 h2 h3 h4 => ?_⟩
  · rcases nth_stE ω i j (some (.list ds)) d hj with ⟨rfl, e⟩ | ⟨nj, e⟩
    · cases e
      exact ⟨ds, l, xs, rfl, List.getElem?_set_self hi, r.gr.h.free hl, r.gr.i.free hl, upd_same, h⟩
    · obtain ⟨ds', l', xs', e', q1, q2, q3, q4, q5⟩ := r.ow j d e
      exact ⟨ds', l', xs', e', by rw [List.getElem?_set_ne (Ne.symm nj)]; exact q1, q2, q3, by rw [upd_ne (ne e q1)]; exact q4, q5⟩
  · rcases nth_stE ω i j (some (.list ds)) dj h1 with ⟨rfl, _⟩ | ⟨nj, e⟩
    · rw [List.getElem?_set_self hi] at h3; cases h3
      rcases nth_stE ω j k (some (.list ds)) dk h2 with ⟨rfl, _⟩ | ⟨nk, e2⟩
      · exact njk rfl
      · rw [List.getElem?_set_ne (Ne.symm nk)] at h4
        exact ne e2 h4 rfl
    · rw [List.getElem?_set_ne (Ne.symm nj)] at h3
      rcases nth_stE ω i k (some (.list ds)) dk h2 with ⟨rfl, _⟩ | ⟨nk, e2⟩
      · rw [List.getElem?_set_self hi] at h4; cases h4
        exact ne e h3 rfl
      · rw [List.getElem?_set_ne (Ne.symm nk)] at h4
        exact r.ap j k dj dk l' njk e e2 h3 h4
/-- one of them is changed -/
theorem Ro.mut (r : Ro K G0 H0 G H σ ρ ω) {i : Nat} {d : D} {l : Addr} {xs' : List V} {ds' : List D} (hi : nth ω i = some d) (hl : σ[i]? = some (some (.ref l))) (h : RpAll K G xs' ds') : Ro K G0 H0 G (upd H l (.lst xs')) σ ρ (stE ω i (some (.list ds'))) := by
  obtain ⟨ds, l', xs, rfl, q1, q2, q3, q4, q5⟩ := r.ow i d hi
  rw [hl] at q1; cases q1
  refine ⟨⟨r.gr.g, fun b o q => ?_, fun b o q => ?_, r.gr.n⟩, r.rs, fun j dj hj => ?_, fun j k dj dk l' njk h1 h2 h3 h4 => ?_⟩
  · have : b ≠ l := fun z => by rw [z, q3] at q; cases q
    rw [upd_ne this]; exact r.gr.i _ _ q
  · have : b ≠ l := fun z => by rw [z, q2] at q; cases q
    rw [upd_ne this]; exact r.gr.h _ _ q
  · rcases nth_stE ω i j (some (.list ds')) dj hj with ⟨rfl, e⟩ | ⟨nj, e⟩
    · cases e
      exact ⟨ds', l, xs', rfl, hl, q2, q3, upd_same, h⟩
    · obtain ⟨es, l2, ys, e', p1, p2, p3, p4, p5⟩ := r.ow j dj e
      have : l2 ≠ l := fun z => r.ap j i dj _ l nj e hi (by rw [← z]; exact p1) hl
      exact ⟨es, l2, ys, e', p1, p2, p3, by rw [upd_ne this]; exact p4, p5⟩
  · have un : ∀ {j : Nat} {dj : D}, nth (stE ω i (some (.list ds'))) j = some dj → ∃ dj', nth ω j = some dj' := fun {j dj} hj => by
      rcases nth_stE ω i j (some (.list ds')) dj hj with ⟨rfl, _⟩ | ⟨_, e⟩
      · exact ⟨_, hi⟩
      · exact ⟨_, e⟩
    obtain ⟨_, e1⟩ := un h1
    obtain ⟨_, e2⟩ := un h2
    exact r.ap j k _ _ l' njk e1 e2 h3 h4
/-- they may be read -/
theorem Ro.read (r : Ro K G0 H0 G H σ ρ ω) : ∃ Gr, Same Gr H ∧ Rs K Gr σ (mixE ρ ω) ∧ ∀ v G' H' d, Grow Gr H G' H' → Rp K G' v d → nlN 6 d = true → ∃ G2, Grow G H G2 H' ∧ Rp K G2 v d := by
  classical
  let own : Addr → Prop := fun a => ∃ i d, nth ω i = some d ∧ σ[i]? = some (some (.ref a))
  have ownG : ∀ a, own a → G a = none ∧ ∃ xs, H a = some (.lst xs) := fun a ⟨i, d, h1, h2⟩ => by
    obtain ⟨ds, l, xs, _, q1, _, q3, q4, _⟩ := r.ow i d h1
    rw [h2] at q1; cases q1
    exact ⟨q3, xs, q4⟩
  let Gr : Hp := fun a => if own a then H a else G a
  have sG : Same G Gr := fun a o e => by
    show (if own a then H a else G a) = some o
    by_cases c : own a
    · rw [(ownG a c).1] at e; cases e
    · rw [if_neg c]; exact e
  have sH : Same Gr H := fun a o e => by
    have e' : (if own a then H a else G a) = some o := e
    by_cases c : own a
    · rw [if_pos c] at e'; exact e'
    · rw [if_neg c] at e'; exact r.gr.i _ _ e'
  refine ⟨Gr, sH, ⟨by rw [mix_len]; exact r.rs.len, fun i d h => ?_⟩, fun v G' H' d g rp nl => ?_⟩
  · rcases nth_mix ρ ω i d h with h | h
    · obtain ⟨ds, l, xs, rfl, q1, _, q3, q4, q5⟩ := r.ow i d h
      refine ⟨_, q1, .lst ?_ (RpAll.mono sG _ _ q5)⟩
      show (if own l then H l else G l) = some (.lst xs)
      rw [if_pos ⟨i, _, h, q1⟩]; exact q4
    · obtain ⟨v, a, b⟩ := r.rs.at_ i d h
      exact ⟨v, a, Rp.mono sG _ _ b⟩
  · let G2 : Hp := fun a => if own a then none else G' a
    have e2 : ∀ a, ¬ own a → G2 a = G' a := fun a c => if_neg c
    refine ⟨G2, ⟨fun a o e => ?_, fun a o e => ?_, g.h, fun a h1 h2 => ?_⟩, ?_⟩
    · have c : ¬ own a := fun c => by rw [(ownG a c).1] at e; cases e
      rw [e2 a c]; exact g.g _ _ (sG _ _ e)
    · have e' : (if own a then none else G' a) = some o := e
      by_cases c : own a
      · rw [if_pos c] at e'; cases e'
      · rw [if_neg c] at e'; exact g.i _ _ e'
    · show (if own a then none else G' a) = none
      by_cases c : own a
      · rw [if_pos c]
      · rw [if_neg c]
        refine g.n a h1 ?_
        show (if own a then H a else G a) = none
        rw [if_neg c]; exact h2
    · refine Rp.keepT (fun a xs h => ?_) 6 d v nl rp
      have no : ∀ {a : Addr} {u : HO}, own a → G' a = some u → ∃ ys, u = .lst ys := fun {a u} c e => by
        obtain ⟨_, xs, hx⟩ := ownG a c
        have : Gr a = some (.lst xs) := by show (if own a then H a else G a) = _; rw [if_pos c]; exact hx
        have := g.g _ _ this
        rw [this] at e; cases e; exact ⟨xs, rfl⟩
      rcases h with (h | ⟨o, h⟩) | h
      · have c : ¬ own a := fun c => by obtain ⟨ys, z⟩ := no c h; cases z
        exact .inl (.inl (by rw [e2 a c]; exact h))
      · have c : ¬ own a := fun c => by obtain ⟨ys, z⟩ := no c h; cases z
        exact .inl (.inr ⟨o, by rw [e2 a c]; exact h⟩)
      · exact .inr h
end
inductive Oo where
  | nx (ρ ω : Ev)
  | rt (d : D)
def oPost (K : PySem.W.Frag) (G0 H0 G : Hp) (De : Ends) : Oo → Prop
  | .nx ρ ω => ∀ σ' G' H', Same G G' → Ro K G0 H0 G' H' σ' ρ ω → De.nx σ' H'
  | .rt d => ∀ v G' H', Grow G0 H0 G' H' → Rp K G' v d → De.rt v H'
abbrev Fo := Ev → Ev → Option Oo
theorem oPost.from {K : PySem.W.Frag} {G0 H0 G G1 : Hp} {De : Ends} (s : Same G G1) : ∀ {o : Oo}, oPost K G0 H0 G De o → oPost K G0 H0 G1 De o
  | .nx _ _, h => fun σ' G' H' s' r => h σ' G' H' (s.trans s') r
  | .rt _, h => h
def oD (K : PySem.W.Frag) (f : Fo) : TS := fun De σ H => ∃ G0 H0 G ρ ω o, Ro K G0 H0 G H σ ρ ω ∧ f ρ ω = some o ∧ oPost K G0 H0 G De o
def ondE : Fo := fun ρ ω => some (.nx ρ ω)
def osqE (f g : Fo) : Fo := fun ρ ω => match f ρ ω with
  | some (.nx ρ' ω') => g ρ' ω'
  | r => r
/-- name = e, what is read are no lists of the own -/
def opE (i : Nat) (f : Ev → Option D) : Fo := fun ρ ω => match f ρ with
  | some d => some (.nx (stE ρ i (some d)) (stE ω i none))
  | none => none
/-- name = e, what is read may be, what comes has no list -/
def omE (i : Nat) (f : Ev → Option D) : Fo := fun ρ ω => match f (mixE ρ ω) with
  | some d => (match nlN 6 d with
    | true => some (.nx (stE ρ i (some d)) (stE ω i none))
    | false => none)
  | none => none
def otE (t : Tgt) (f : Ev → Option D) : Fo := fun ρ ω => match f ρ with
  | some d => (match tgE t d ρ with
    | some ρ' => some (.nx ρ' (wipeE ω t.slots))
    | none => none)
  | none => none
def oparE (is : List Nat) (h : Ev → Option (List D)) : Fo := fun ρ ω => match h ρ with
  | some ds => (match setAllE is ds ρ with
    | some ρ' => some (.nx ρ' (wipeE ω is))
    | none => none)
  | none => none
def onewE (i : Nat) (f : Ev → Option (List D)) : Fo := fun ρ ω => match f ρ with
  | some ds => some (.nx (stE ρ i none) (stE ω i (some (.list ds))))
  | none => none
def oappE (i : Nat) (f : Ev → Option D) : Fo := fun ρ ω => match nth ω i with
  | some (.list ds) => (match f ρ with
    | some d => (match Nat.ble ds.length lim with
      | true => some (.nx ρ (stE ω i (some (.list (ds ++ [d])))))
      | false => none)
    | none => none)
  | _ => none
def osetE (i : Nat) (fi fv : Ev → Option D) : Fo := fun ρ ω => match nth ω i with
  | some (.list ds) => (match fv (mixE ρ ω) with
    | some d => (match nlN 6 d with
      | true => (match fi (mixE ρ ω) with
        | some (.int (.ofNat n)) => (match Nat.blt n ds.length with
          | true => some (.nx ρ (stE ω i (some (.list (ds.set n d)))))
          | false => none)
        | _ => none)
      | false => none)
    | none => none)
  | _ => none
def oifE (p : Ev → Option Bool) (f g : Fo) : Fo := fun ρ ω => match p (mixE ρ ω) with
  | some true => f ρ ω
  | some false => g ρ ω
  | none => none
def oloopE (t : Tgt) (fb : Fo) : List D → Fo
  | [], ρ, ω => some (.nx ρ ω)
  | d :: ds, ρ, ω => (match tgE t d ρ with
    | some ρ1 => (match fb ρ1 (wipeE ω t.slots) with
      | some (.nx ρ2 ω2) => oloopE t fb ds ρ2 ω2
      | r => r)
    | none => none)
def ofrE (fi : Ev → Option (List D)) (t : Tgt) (fb : Fo) : Fo := fun ρ ω => match fi ρ with
  | some ds => oloopE t fb ds ρ ω
  | none => none
def ortE (f : Ev → Option D) : Fo := fun ρ ω => match f (mixE ρ ω) with
  | some d => (match nlN 6 d with
    | true => some (.rt d)
    | false => none)
  | none => none
/-- the reading of an expression that makes a new list -/
def lD (K : PySem.W.Frag) (f : Ev → Option (List D)) : TE := fun σ H Q => ∃ G ρ ds, Same G H ∧ Rs K G σ ρ ∧ f ρ = some ds ∧ ∀ l xs G' H', Grow G H G' H' → H' l = none → RpAll K G' xs ds → Q (.ref l) (upd H' l (.lst xs))
section
variable {X : Cx} {st : Stmt} {rest : List Stmt} {e c tg iter : Expr} {a b : List Stmt} {pos p : Pos} {f g : Ev → Option D} {q : Ev → Option Bool} {u v w : Fo} {fi : Ev → Option (List D)} {h : Ev → Option (List D)}
theorem nl0 : PE X (.List [] pos) (lD X.K fun _ => some []) := by
  refine PE.imp (pe_lst pa_nil) ?_
  rintro σ H Q ⟨G, ρ, ds, e, r, hf, k⟩
  cases hf
  exact ⟨Nat.zero_le _, fun l hl => k l [] G H (.refl e) hl .nil⟩
theorem nlist (hm : X.mg "list" = none) (hg : Gl X "list") (ha : PE X e (tD X.K f)) (he : starEach [e] X.env = (false, eval e X.env) :: starEach [] X.env := by rfl) (hpl : (backTo pos (starEach [] X.env)).any (·.1) = false := by rfl) : PE X (.Call (.Name "list" p) [e] [] pos) (lD X.K (seqE f)) := by
  refine PE.imp (pe_callTy call_list_of hg hm (by decide +kernel) (pa_cons ha pa_nil he) (he := he) (hpl := hpl)) ?_
  rintro σ H Q ⟨G, ρ, ds, e, r, hf, k⟩
  unfold seqE at hf
  split at hf
  · next d e1 =>
    refine ⟨G, ρ, d, e, r, e1, fun v G1 H1 g1 r1 => ?_⟩
    unfold itemsD at hf
    split at hf
    · cases hf
      cases r1 with
      | lst a1 a2 => exact ⟨_, _, rfl, .inl (.inl (.inl (g1.i _ _ a1))), fun l hl => k l _ G1 H1 g1 hl a2⟩
    · cases hf
      cases r1 with
      | tup a1 a2 => exact ⟨_, _, rfl, .inr (sqT_same g1.i a1), fun l hl => k l _ G1 H1 g1 hl a2⟩
    · cases hf
  · cases hf
def catL (f g : Ev → Option D) : Ev → Option (List D) := fun ρ => match f ρ with
  | some (.list xs) => (match g ρ with
    | some (.list ys) => (match Nat.ble (xs ++ ys).length lim with
      | true => some (xs ++ ys)
      | false => none)
    | _ => none)
  | _ => none
theorem ncat {a b : Expr} (ha : PE X a (tD X.K f)) (hb : PE X b (tD X.K g)) : PE X (.BinOp a .Add b pos) (lD X.K (catL f g)) := by
  refine PE.imp (pe_op op_cat ha hb) ?_
  rintro σ H Q ⟨G, ρ, ds, e, r, hf, k⟩
  unfold catL at hf
  split at hf
  · next xs e1 =>
    split at hf
    · next ys e2 =>
      split at hf
      · next hl =>
        cases hf
        have hl := Nat.le_of_ble_eq_true hl
        refine ⟨G, ρ, _, e, r, e1, fun v G1 H1 g1 r1 => ⟨G1, ρ, _, g1.i, r.mono g1.g, e2, fun u G2 H2 g2 r2 => ?_⟩⟩
        cases r1 with
        | lst a1 a2 =>
          cases r2 with
          | lst b1 b2 =>
            rw [List.length_append, ← a2.length, ← b2.length] at hl
            exact ⟨_, _, _, _, rfl, rfl, g2.i _ _ (g2.g _ _ a1), g2.i _ _ b1, lim_line hl, fun p hp => k p _ G2 H2 (g1.trans g2) hp ((RpAll.mono g2.g _ _ a2).append b2)⟩
      · cases hf
    · cases hf
  · cases hf
theorem on : PSs X [] (oD X.K ondE) := by
  refine PSs.imp pss_nil ?_
  rintro De σ H ⟨G0, H0, G, ρ, ω, o, r, hf, k⟩
  cases hf
  exact k σ G H (Same.refl _) r
theorem oc (h1 : PS X st (oD X.K u)) (h2 : PSs X rest (oD X.K v)) : PSs X (st :: rest) (oD X.K (osqE u v)) := by
  refine PSs.imp (pss_cons h1 h2) ?_
  rintro De σ H ⟨G0, H0, G, ρ, ω, o, r, hf, k⟩
  unfold osqE at hf
  split at hf
  · next ρ' ω' e1 => exact ⟨G0, H0, G, ρ, ω, .nx ρ' ω', r, e1, fun σ' G1 H1 s1 r1 => ⟨G0, H0, G1, ρ', ω', o, r1, hf, k.from s1⟩⟩
  · next r0 hn =>
    refine ⟨G0, H0, G, ρ, ω, o, r, hf, ?_⟩
    cases o with
    | nx ρ' ω' => exact absurd hf (hn ρ' ω')
    | rt d => exact k
theorem oz1 (h1 : PS X st (oD X.K u)) : PSs X [st] (oD X.K u) := pss_one h1
theorem op {i : Nat} {x : Str} {pos' : Pos} (hN : X.N.Nodup) (hi : X.N[i]? = some x) (hx : Loc X.env.scope x) (he : PE X e (tD X.K f)) (hs : swapsWith e (some (.Name x pos')) pos.line X.env = pure false := by rfl) (hf : X.fn x = true ∨ X.env.scope.names.lookup x = some .local := by first | exact .inl rfl | exact .inr rfl | assumption) :
    PS X (.Assign [.Name x pos'] e pos) (oD X.K (opE i f)) := by
  refine PS.imp (ps_set hN hi hx he hs hf) ?_
  rintro De σ H ⟨G0, H0, G, ρ, ω, o, r, hf, k⟩
  unfold opE at hf
  split at hf
  · next d e1 =>
    cases hf
    exact ⟨G, ρ, d, r.gr.i, r.rs, e1, fun v G1 H1 g1 r1 => k _ G1 H1 g1.g ((r.grow g1).set i r1)⟩
  · cases hf
theorem om {i : Nat} {x : Str} {pos' : Pos} (hN : X.N.Nodup) (hi : X.N[i]? = some x) (hx : Loc X.env.scope x) (he : PE X e (tD X.K f)) (hs : swapsWith e (some (.Name x pos')) pos.line X.env = pure false := by rfl) (hf : X.fn x = true ∨ X.env.scope.names.lookup x = some .local := by first | exact .inl rfl | exact .inr rfl | assumption) :
    PS X (.Assign [.Name x pos'] e pos) (oD X.K (omE i f)) := by
  refine PS.imp (ps_set hN hi hx he hs hf) ?_
  rintro De σ H ⟨G0, H0, G, ρ, ω, o, r, hf, k⟩
  unfold omE at hf
  split at hf
  · next d e1 =>
    split at hf
    · next nl =>
      cases hf
      obtain ⟨Gr, s1, rr, back⟩ := r.read
      refine ⟨Gr, _, d, s1, rr, e1, fun v G1 H1 g1 r1 => ?_⟩
      obtain ⟨G2, g2, r2⟩ := back v G1 H1 d g1 r1 nl
      exact k _ G2 H1 g2.g ((r.grow g2).set i r2)
    · cases hf
  · cases hf
theorem ot {t : Tgt} (he : PE X e (tD X.K f)) (hg : PG X tg (gD X.K t)) (hs : swapsWithSole [tg] e pos.line X.env = pure false := by rfl) (hw : swappedStores [tg] e X.env = pure none := by rfl)
    (h1 : (assignEach [tg] X.env).map (·.2) = [assign tg X.env] := by rfl) : PS X (.Assign [tg] e pos) (oD X.K (otE t f)) := by
  refine PS.imp (ps_asg he hg hs hw h1) ?_
  rintro De σ H ⟨G0, H0, G, ρ, ω, o, r, hf, k⟩
  unfold otE at hf
  split at hf
  · next d e1 =>
    split at hf
    · next ρ' e2 =>
      cases hf
      exact ⟨G, ρ, d, r.gr.i, r.rs, e1, fun v G1 H1 g1 r1 => ⟨G1, ρ, d, ρ', g1.i, r.rs.mono g1.g, r1, e2, fun σ' r2 hw => k σ' G1 H1 g1.g ((r.grow g1).tgt t.slots r2 (hw _ fun _ z => z))⟩⟩
    · cases hf
  · cases hf
theorem opar2 {i j : Nat} {x y : Str} {a b : Expr} {px py pt : Pos} {kt k2 pt2} (hc : X.calm = true) (hN : X.N.Nodup) (hi : X.N[i]? = some x) (hj : X.N[j]? = some y) (hij : i ≠ j)
    (hx : X.env.scope.names.lookup x = some .local) (hy : X.env.scope.names.lookup y = some .local) (ha : PA X [a, b] (aD X.K h))
    (hw : swappedStores [.Tuple [.Name x px, .Name y py] kt pt] (.Tuple [a, b] k2 pt2) X.env = pure (some [x, y]))
    (hs : swapsWithSole [.Tuple [.Name x px, .Name y py] kt pt] (.Tuple [a, b] k2 pt2) pos.line X.env = pure false := by rfl) :
    PS X (.Assign [.Tuple [.Name x px, .Name y py] kt pt] (.Tuple [a, b] k2 pt2) pos) (oD X.K (oparE [i, j] h)) := by
  refine PS.imp (ps_par hc hN hi hj hij hx hy ha hw hs) ?_
  rintro De σ H ⟨G0, H0, G, ρ, ω, o, r, hf, k⟩
  unfold oparE at hf
  split at hf
  · next ds e1 =>
    split at hf
    · next ρ' e2 =>
      cases hf
      refine ⟨G, ρ, ds, r.gr.i, r.rs, e1, fun vs G1 H1 g1 r1 => ?_⟩
      match ds, vs, e2, r1 with
      | [d1, d2], [v1, v2], e2, .cons r1 (.cons r2 .nil) =>
        cases e2
        exact ⟨v1, v2, rfl, k _ G1 H1 g1.g ((r.grow g1).tgt [i, j] (((r.rs.mono g1.g).set i r1).set j r2) (by rw [wipe_set (by simp), wipe_set (by simp)]))⟩
    · cases hf
  · cases hf
theorem onew {i : Nat} {x : Str} {pos' : Pos} (hN : X.N.Nodup) (hi : X.N[i]? = some x) (hx : Loc X.env.scope x) (he : PE X e (lD X.K h)) (hs : swapsWith e (some (.Name x pos')) pos.line X.env = pure false := by rfl) (hf : X.fn x = true ∨ X.env.scope.names.lookup x = some .local := by first | exact .inl rfl | exact .inr rfl | assumption) :
    PS X (.Assign [.Name x pos'] e pos) (oD X.K (onewE i h)) := by
  have he' : PS X (.Assign [.Name x pos'] e pos) (tAsg (fun σ H Q => σ.length = X.N.length ∧ lD X.K h σ H Q) (gName i)) :=
    ps_set hN hi hx ⟨fun pins s σ H Q I hq => he.run pins s σ H Q I hq.2⟩ hs hf
  refine ⟨fun pins s σ H De I hq => (ps_set hN hi hx he hs hf).run pins s σ H De I ?_⟩
  have hlen : i < σ.length := by rw [I.len]; exact (List.getElem?_eq_some_iff.mp hi).1
  obtain ⟨G0, H0, G, ρ, ω, o, r, hf, k⟩ := hq
  unfold onewE at hf
  split at hf
  · next ds e1 =>
    cases hf
    exact ⟨G, ρ, ds, r.gr.i, r.rs, e1, fun l xs G1 H1 g1 hl r1 => k _ G1 _ g1.g ((r.grow g1).own i hlen hl r1)⟩
  · cases hf
/-- x.append(e) -/
theorem oapp {i : Nat} {x : Str} {pn pm : Pos} (hN : X.N[i]? = some x) (hv : Vis X.env.scope x) (he : PE X e (tD X.K f)) (hd : (x == ("__debug__" : Str)) = false := by decide) (hcd : (x == ("__classdict__" : Str)) = false := by decide)
    (hs1 : starEach [e] X.env = (false, eval e X.env) :: starEach [] X.env := by rfl) (hb : PE X (.Call (.Attribute (.Name x pn) "append" pm) [e] [] p) (tBM X.K "list" rAppend (tVar i) (tCons (tD X.K f) tNil)))
    (hs : swapsWith (.Call (.Attribute (.Name x pn) "append" pm) [e] [] p) none pos.line X.env = pure false := by rfl) :
    PS X (.Expr (.Call (.Attribute (.Name x pn) "append" pm) [e] [] p) pos) (oD X.K (oappE i f)) := by
  refine PS.imp (ps_expr hb hs) ?_
  rintro De σ H ⟨G0, H0, G, ρ, ω, o, r, hf, k⟩
  unfold oappE at hf
  split at hf
  · next ds e0 =>
    split at hf
    · next d e1 =>
      split at hf
      · next hl =>
        cases hf
        obtain ⟨ds', l, xs, e', q1, q2, q3, q4, q5⟩ := r.ow i _ e0
        cases e'
        refine ⟨.ref l, q1, .inl ⟨rfl, _, .inl (.inl q4)⟩, G, ρ, d, r.gr.i, r.rs, e1, fun v G1 H1 g1 r1 => ?_⟩
        have r2 := r.grow g1
        obtain ⟨ds', l', xs', e', q1', q2', q3', q4', q5'⟩ := r2.ow i _ e0
        cases e'
        rw [q1] at q1'; cases q1'
        refine ⟨l, xs', v, rfl, rfl, q4', ?_, ?_⟩
        · rw [q5'.length]; exact lim_lt (Nat.le_of_ble_eq_true hl)
        · exact k σ G1 _ g1.g (r2.mut e0 q1 (q5'.append (.cons r1 .nil)))
      · cases hf
    · cases hf
  · cases hf
/-- x[i] = e -/
theorem oset {i : Nat} {x : Str} {ei : Expr} {pn ps : Pos} (hv : PE X (.Name x pn) (tVar i)) (hi : PE X ei (tD X.K f)) (he : PE X e (tD X.K g))
    (ha : ∀ v, assign (.Subscript (.Name x pn) ei ps) X.env v = (do
      let ov ← holding [v] (eval (.Name x pn) X.env)
      let iv ← holding [v, ov] (eval ei X.env)
      standAt ps
      holding [v, ov, iv] (setItem ov iv v)
      release [v, ov, iv] []) := by intro _; rfl)
    (hs : swapsWithSole [.Subscript (.Name x pn) ei ps] e pos.line X.env = pure false := by rfl) (hw : swappedStores [.Subscript (.Name x pn) ei ps] e X.env = pure none := by rfl)
    (h1 : (assignEach [.Subscript (.Name x pn) ei ps] X.env).map (·.2) = [assign (.Subscript (.Name x pn) ei ps) X.env] := by rfl) :
    PS X (.Assign [.Subscript (.Name x pn) ei ps] e pos) (oD X.K (osetE i f g)) := by
  refine PS.imp (ps_asg he (pg_sub hv hi set_list ha) hs hw h1) ?_
  rintro De σ H ⟨G0, H0, G, ρ, ω, o, r, hf, k⟩
  unfold osetE at hf
  split at hf
  · next ds e0 =>
    split at hf
    · next d e1 =>
      split at hf
      · next nl =>
        split at hf
        · next n e2 =>
          split at hf
          · next hn =>
            cases hf
            obtain ⟨Gr, s1, rr, back⟩ := r.read
            refine ⟨Gr, _, d, s1, rr, e1, fun v G1 H1 g1 r1 => ?_⟩
            obtain ⟨G2, g2, rv2⟩ := back v G1 H1 d g1 r1 nl
            have r2 := r.grow g2
            obtain ⟨ds', l, xs, e', q1, q2, q3, q4, q5⟩ := r2.ow i _ e0
            cases e'
            refine ⟨.ref l, q1, ?_⟩
            obtain ⟨Gr2, s2, rr2, back2⟩ := r2.read
            refine ⟨Gr2, _, _, s2, rr2, e2, fun vi G3 H3 g3 r3 => ?_⟩
            cases r3
            obtain ⟨G4, g4, _⟩ := back2 _ G3 H3 _ g3 (.int (Int.ofNat n)) rfl
            have r4 := r2.grow g4
            obtain ⟨ds', l', xs', e', q1', q2', q3', q4', q5'⟩ := r4.ow i _ e0
            cases e'
            rw [q1] at q1'; cases q1'
            have hn' : n < xs'.length := by rw [q5'.length]; exact Nat.le_of_ble_eq_true hn
            refine ⟨l, xs', (n : Int), n, rfl, rfl, q4', ?_, ?_⟩
            · unfold ixN
              rw [if_pos (Int.natCast_nonneg n), if_pos (by omega)]
              simp
            · exact k σ G4 _ (g2.g.trans g4.g) (r4.mut e0 q1 (q5'.set n (Rp.mono g4.g _ _ rv2)))
          · cases hf
        · cases hf
      · cases hf
    · cases hf
  · cases hf
theorem oif (hc : PT X c (bD q X.K)) (ha : PSs X a (oD X.K u)) (hb : PSs X b (oD X.K v)) : PS X (.If c a b pos) (oD X.K (oifE q u v)) := by
  refine PS.imp (ps_if hc ha hb) ?_
  rintro De σ H ⟨G0, H0, G, ρ, ω, o, r, hf, k⟩
  have go : ∀ {b : Bool} {w : Fo}, q (mixE ρ ω) = some b → w ρ ω = some o → ∀ {R : Hp → Prop}, (∀ H1, oD X.K w De σ H1 → R H1) → bD q X.K σ H (fun b' H1 => b' = b ∧ R H1) := by
    intro b w e1 e2 R hR
    obtain ⟨Gr, s1, rr, back⟩ := r.read
    refine ⟨Gr, _, b, s1, rr, e1, fun G1 H1 g1 => ⟨rfl, hR H1 ?_⟩⟩
    obtain ⟨G2, g2, _⟩ := back .non G1 H1 .none g1 .non rfl
    exact ⟨G0, H0, G2, ρ, ω, o, r.grow g2, e2, k.from g2.g⟩
  have mono : ∀ {A B : Bool → Hp → Prop}, (∀ b H1, A b H1 → B b H1) → bD q X.K σ H A → bD q X.K σ H B := fun {A B} w ⟨G, ρ, d, s, r, hf, kk⟩ => ⟨G, ρ, d, s, r, hf, fun G' H' g => w _ _ (kk G' H' g)⟩
  unfold oifE at hf
  split at hf
  · next e1 => exact mono (fun b H1 z => by rw [z.1]; exact iteT z.2) (go e1 hf fun H1 z => z)
  · next e1 => exact mono (fun b H1 z => by rw [z.1]; exact iteF z.2) (go e1 hf fun H1 z => z)
  · cases hf
theorem ofor {t : Tgt} (hp : PassesOwn (model X.prog X.w) X.A X.env X.xe) (hc : X.calm = true) (hi : PI X tg iter (iD X.K fi)) (hg : PG X tg (gD X.K t)) (hb : PSs X b (oD X.K v)) (hs : ∀ x, foldedSetIterable iter X.env x = pure x := by intro _; rfl) : PS X (.For tg iter b [] pos) (oD X.K (ofrE fi t v)) := by
  refine PS.imp (ps_for hp hc hi hg hb hs) ?_
  rintro De σ H ⟨G0, H0, G, ρ, ω, o, r, hf, k⟩
  unfold ofrE at hf
  split at hf
  · next ds e1 =>
    refine ⟨G, ρ, ds, r.gr.i, r.rs, e1, fun J G1 H1 g1 it => ?_⟩
    refine ⟨fun i m σ H => m = ds.length - i ∧ i ≤ ds.length ∧ ∃ G2 ρ2 ω2, Same G1 G2 ∧ Ro X.K G0 H0 G2 H σ ρ2 ω2 ∧ oloopE t v (ds.drop i) ρ2 ω2 = some o, ⟨_, rfl, Nat.zero_le _, G1, ρ, ω, Same.refl _, r.grow g1, by rw [List.drop_zero]; exact hf⟩, ?_⟩
    rintro i m σ2 H2 ⟨rfl, hi, G2, ρ2, ω2, s2, r2, hl⟩
    by_cases hlt : i < ds.length
    · obtain ⟨hgo, hy⟩ := it.go G2 H2 i _ s2 r2.gr.i (List.getElem?_eq_getElem hlt)
      refine .inr ⟨hgo, fun σ' H' => i + 1 ≤ ds.length ∧ ∃ G3 ρ3 ω3, Same G1 G3 ∧ Ro X.K G0 H0 G3 H' σ' ρ3 ω3 ∧ oloopE t v (ds.drop (i + 1)) ρ3 ω3 = some o, fun σ' H' w => ⟨ds.length - (i + 1), by omega, rfl, w⟩, fun x H' yl => ?_⟩
      obtain ⟨G3, g3, rx⟩ := hy x H' yl
      rw [List.drop_eq_getElem_cons hlt] at hl
      unfold oloopE at hl
      split at hl
      · next ρ1 et =>
        have r3 := r2.grow g3
        refine ⟨G3, ρ2, _, ρ1, g3.i, r3.rs, rx, et, fun σ' rs' hw => ?_⟩
        have r4 := r3.tgt t.slots rs' (hw _ fun _ z => z)
        split at hl
        · next ρ4 ω4 eb => exact ⟨G0, H0, G3, ρ1, _, .nx ρ4 ω4, r4, eb, fun σ'' G5 H5 s5 r5 => ⟨hlt, G5, ρ4, ω4, s2.trans (g3.g.trans s5), r5, hl⟩⟩
        · next r0 hn =>
          refine ⟨G0, H0, G3, ρ1, _, o, r4, hl, ?_⟩
          cases o with
          | nx ρ' ω' => exact absurd hl (hn ρ' ω')
          | rt d => exact k
      · cases hl
    · have ei : i = ds.length := by omega
      subst ei
      rw [List.drop_length] at hl
      cases hl
      exact .inl ⟨it.stop G2 H2 s2 r2.gr.i, k σ2 G2 H2 (g1.g.trans s2) r2⟩
  · cases hf
theorem oret (he : PE X e (tD X.K f)) : PS X (.Return (some e) pos) (oD X.K (ortE f)) := by
  refine PS.imp (ps_ret he) ?_
  rintro De σ H ⟨G0, H0, G, ρ, ω, o, r, hf, k⟩
  unfold ortE at hf
  split at hf
  · next d e1 =>
    split at hf
    · next nl =>
      cases hf
      obtain ⟨Gr, s1, rr, back⟩ := r.read
      refine ⟨Gr, _, d, s1, rr, e1, fun v G1 H1 g1 r1 => ?_⟩
      obtain ⟨G2, g2, r2⟩ := back v G1 H1 d g1 r1 nl
      exact k v G2 H1 (r.gr.trans g2) r2
    · cases hf
  · cases hf
end
end Mv

/-! part Mv7 -/
set_option maxHeartbeats 4000000
namespace Mv
open PySem PySem.Spec L2

section
variable {K : PySem.W.Frag} {G0 H0 G H G1 H1 : Hp} {σ σ' : L2.St} {ρ ρ' ω : Ev}
theorem Ro.own2 (r : Ro K G0 H0 G H σ ρ ω) (i : Nat) (hi : i < σ.length) {l : Addr} {xs : List V} {ds : List D} (h0 : H0 l = none) (hg : G l = none) (hl : H l = some (.lst xs)) (h : RpAll K G xs ds) (no : ∀ j d, nth ω j = some d → σ[j]? ≠ some (some (.ref l))) :
    Ro K G0 H0 G H (σ.set i (some (.ref l))) (stE ρ i none) (stE ω i (some (.list ds))) := by
  have r2 := r.tgt [i] (r.rs.unset i (some (.ref l))) (wipe_set List.mem_cons_self)
  refine ⟨r.gr, r2.rs, fun j d hj => ?_, fun j k dj dk l' njk h1 h2 h3 h4 => ?_⟩
  · rcases nth_stE ω i j (some (.list ds)) d hj with ⟨rfl, e⟩ | ⟨nj, e⟩
    · cases e
      exact ⟨ds, l, xs, rfl, List.getElem?_set_self hi, h0, hg, hl, h⟩
    · obtain ⟨ds', l', xs', e', q1, q2⟩ := r.ow j d e
      exact ⟨ds', l', xs', e', by rw [List.getElem?_set_ne (Ne.symm nj)]; exact q1, q2⟩
  · rcases nth_stE ω i j (some (.list ds)) dj h1 with ⟨rfl, _⟩ | ⟨nj, e⟩
    · rw [List.getElem?_set_self hi] at h3; cases h3
      rcases nth_stE ω j k (some (.list ds)) dk h2 with ⟨rfl, _⟩ | ⟨nk, e2⟩
      · exact njk rfl
      · rw [List.getElem?_set_ne (Ne.symm nk)] at h4
        exact no k _ e2 h4
    · rw [List.getElem?_set_ne (Ne.symm nj)] at h3
      rcases nth_stE ω i k (some (.list ds)) dk h2 with ⟨rfl, _⟩ | ⟨nk, e2⟩
      · rw [List.getElem?_set_self hi] at h4; cases h4
        exact no j _ e h3
      · rw [List.getElem?_set_ne (Ne.symm nk)] at h4
        exact r.ap j k dj dk l' njk e e2 h3 h4
theorem Ro.not_at (r : Ro K G0 H0 G H σ ρ ω) {l : Addr} (h : H l = none) : ∀ j d, nth ω j = some d → σ[j]? ≠ some (some (.ref l)) := fun j d h1 h2 => by
  obtain ⟨_, l2, _, _, q1, _, _, q4, _⟩ := r.ow j d h1
  rw [h2] at q1; cases q1
  rw [h] at q4; cases q4
end
def o3E (i j l : Nat) (f g h : Ev → Option (List D)) : Fo := fun ρ ω => match f ρ with
  | some a => (match g ρ with
    | some b => (match h ρ with
      | some c => some (.nx (stE (stE (stE ρ i none) j none) l none) (stE (stE (stE ω i (some (.list a))) j (some (.list b))) l (some (.list c))))
      | none => none)
    | none => none)
  | none => none
section
variable {X : Cx} {pos p : Pos} {f g h : Ev → Option (List D)}
theorem onew3 {i j l : Nat} {x y z : Str} {a b c : Expr} {px py pz pt : Pos} {kt k2 pt2} (hc : X.calm = true) (hN : X.N.Nodup) (hi : X.N[i]? = some x) (hj : X.N[j]? = some y) (hl : X.N[l]? = some z) (hij : i ≠ j) (hil : i ≠ l) (hjl : j ≠ l)
    (hx : X.env.scope.names.lookup x = some .local) (hy : X.env.scope.names.lookup y = some .local) (hz : X.env.scope.names.lookup z = some .local) (ha : PE X a (lD X.K f)) (hb : PE X b (lD X.K g)) (hcc : PE X c (lD X.K h))
    (hw : swappedStores [.Tuple [.Name x px, .Name y py, .Name z pz] kt pt] (.Tuple [a, b, c] k2 pt2) X.env = pure (some [x, y, z]))
    (hs : swapsWithSole [.Tuple [.Name x px, .Name y py, .Name z pz] kt pt] (.Tuple [a, b, c] k2 pt2) pos.line X.env = pure false := by rfl)
    (s1 : starEach [a, b, c] X.env = (false, eval a X.env) :: starEach [b, c] X.env := by rfl) (s2 : starEach [b, c] X.env = (false, eval b X.env) :: starEach [c] X.env := by rfl) (s3 : starEach [c] X.env = (false, eval c X.env) :: starEach [] X.env := by rfl) :
    PS X (.Assign [.Tuple [.Name x px, .Name y py, .Name z pz] kt pt] (.Tuple [a, b, c] k2 pt2) pos) (oD X.K (o3E i j l f g h)) := by
  refine ⟨fun pins s σ H De I hq => (ps_par3 hc hN hi hj hl hij hil hjl hx hy hz (pa_cons ha (pa_cons hb (pa_cons hcc pa_nil s3) s2) s1) hw hs).run pins s σ H De I ?_⟩
  have bound : ∀ {i : Nat} {x : Str}, X.N[i]? = some x → i < σ.length := fun hi => by rw [I.len]; exact (List.getElem?_eq_some_iff.mp hi).1
  obtain ⟨G0, H0, G, ρ, ω, o, r, hf, k⟩ := hq
  unfold o3E at hf
  split at hf
  · next da e1 =>
    split at hf
    · next db e2 =>
      split at hf
      · next dc e3 =>
        cases hf
        refine ⟨G, ρ, da, r.gr.i, r.rs, e1, fun l1 xs1 G1 H1 g1 n1 r1 => ?_⟩
        have q1 := (r.grow g1).grow (Grow.side (p := l1) (o := .lst xs1) g1.i n1)
        refine ⟨G1, ρ, db, q1.gr.i, q1.rs, e2, fun l2 xs2 G2 H2 g2 n2 r2 => ?_⟩
        have q2 := (q1.grow g2).grow (Grow.side (p := l2) (o := .lst xs2) g2.i n2)
        refine ⟨G2, ρ, dc, q2.gr.i, q2.rs, e3, fun l3 xs3 G3 H3 g3 n3 r3 => ?_⟩
        have q3 := (q2.grow g3).grow (Grow.side (p := l3) (o := .lst xs3) g3.i n3)
        -- where the three stand
        have a1 : H2 l1 = some (.lst xs1) := g2.h _ _ upd_same
        have a1' : H3 l1 = some (.lst xs1) := g3.h _ _ (by rw [upd_ne (ne_of_none a1 n2)]; exact a1)
        have a2' : H3 l2 = some (.lst xs2) := g3.h _ _ upd_same
        have b1 : (upd H3 l3 (.lst xs3)) l1 = some (.lst xs1) := by rw [upd_ne (ne_of_none a1' n3)]; exact a1'
        have b2 : (upd H3 l3 (.lst xs3)) l2 = some (.lst xs2) := by rw [upd_ne (ne_of_none a2' n3)]; exact a2'
        have ne12 : l1 ≠ l2 := ne_of_none a1 n2
        have ne13 : l1 ≠ l3 := ne_of_none a1' n3
        have ne23 : l2 ≠ l3 := ne_of_none a2' n3
        have gn : ∀ {G H G' H' : Hp} {l : Addr} {xs : List V}, Grow G (upd H l (.lst xs)) G' H' → G l = none → G' l = none := fun {G H G' H' l xs} g hg => g.n l (by rw [upd_same]; trivial) hg
        have gn' : ∀ {G H G' H' : Hp} {l : Addr} {xs : List V}, Grow G H G' H' → H l = some (.lst xs) → G l = none → G' l = none := fun {G H G' H' l xs} g hh hg => g.n l (by rw [hh]; trivial) hg
        have c1 : G1 l1 = none := g1.i.free n1
        have c1' : G2 l1 = none := gn g2 c1
        have c1'' : G3 l1 = none := gn' g3 (by rw [upd_ne ne12]; exact a1) c1'
        have c2 : G2 l2 = none := g2.i.free n2
        have c2' : G3 l2 = none := gn g3 c2
        have c3 : G3 l3 = none := g3.i.free n3
        have z1 : H l1 = none := g1.h.free n1
        have z2 : H l2 = none := (g1.h.trans ((same_new n1).trans g2.h)).free n2
        have z3 : H l3 = none := (g1.h.trans ((same_new n1).trans (g2.h.trans ((same_new n2).trans g3.h)))).free n3
        have w1 := q3.own2 i (bound hi) (r.gr.h.free z1) c1'' b1 (RpAll.mono (g2.g.trans g3.g) _ _ r1) (r.not_at z1)
        have w2 := w1.own2 j (by rw [List.length_set]; exact bound hj) (r.gr.h.free z2) c2' b2 (RpAll.mono g3.g _ _ r2) (fun m d hm hh => by
          rcases nth_stE ω i m (some (.list da)) d hm with ⟨rfl, _⟩ | ⟨nm, e⟩
          · rw [List.getElem?_set_self (bound hi)] at hh; cases hh; exact ne12 rfl
          · rw [List.getElem?_set_ne (Ne.symm nm)] at hh; exact r.not_at z2 m d e hh)
        have w3 := w2.own2 l (by rw [List.length_set, List.length_set]; exact bound hl) (r.gr.h.free z3) c3 upd_same r3 (fun m d hm hh => by
          rcases nth_stE _ j m (some (.list db)) d hm with ⟨rfl, _⟩ | ⟨nm, e⟩
          · rw [List.getElem?_set_self (by rw [List.length_set]; exact bound hj)] at hh; cases hh; exact ne23 rfl
          · rw [List.getElem?_set_ne (Ne.symm nm)] at hh
            rcases nth_stE ω i m (some (.list da)) d e with ⟨rfl, _⟩ | ⟨nm2, e2⟩
            · rw [List.getElem?_set_self (bound hi)] at hh; cases hh; exact ne13 rfl
            · rw [List.getElem?_set_ne (Ne.symm nm2)] at hh; exact r.not_at z3 m d e2 hh)
        exact ⟨.ref l1, .ref l2, .ref l3, rfl, k _ G3 _ (g1.g.trans (g2.g.trans g3.g)) w3⟩
      · cases hf
    · cases hf
  · cases hf
end
/-! ### a def that has lists of its own, by its body -/
def endO : Option Oo → Option D
  | some (.rt d) => some d
  | some (.nx _ _) => some .none
  | none => none
def runO (n N : Nat) (fb : Fo) : List D → Option D := fun ds => match Nat.beq ds.length n with
  | true => endO (fb (padE ds N) (List.replicate N none))
  | false => none
theorem runO_len {n N : Nat} {fb : Fo} {ds : List D} {d : D} (h : runO n N fb ds = some d) : ds.length = n ∧ endO (fb (padE ds N) (List.replicate N none)) = some d := by
  unfold runO at h
  split at h
  · next e => exact ⟨Nat.eq_of_beq_eq_true e, h⟩
  · cases h
theorem nth_rep : ∀ (N i : Nat) (d : D), nth (List.replicate N none) i = some d → False
  | 0, _, _, h => by simp [nth] at h
  | N + 1, 0, _, h => by simp [List.replicate_succ, nth] at h
  | N + 1, i + 1, d, h => nth_rep N i d (by simpa [List.replicate_succ, nth] using h)
section
variable {P : Program} {w : World} {K : PySem.W.Frag} {mg : Str → Option Value} {base : Heap}
theorem fn_O {x : Str} {st : Stmt} {f : Addr} {fd : FuncData} {N ps : List Str} {k : Nat} {fb : Fo} (F : Fun K x x st f fd) (S : FnScope N ps (defScope st))
    (hb : ∀ (cdv : Value) (A : Around) (outer : List Env) (s : Shared) (H : Hp) (E : XK), Room k (A.deeper (PyProof.Rows.envOfC x (defScope st) s.heap.objs.size f cdv)) →
      PSs (cxOf CX0 P w K mg base N x (defScope st) f cdv A outer s H E).nox (defBody st) (oD K fb)) : FnOk P w K mg base CX0 (k + 1) f fd ps (spD K (runO ps.length N.length fb)) := by
  have hpl : ps.length ≤ N.length := by have := congrArg List.length S.pre; rw [List.length_take] at this; omega
  refine F.ok S (fun vs H Q E h => ?_) (fun cdv A outer s H vs Q E hr h => ⟨_, hb cdv A outer s H E hr, ?_⟩)
  · obtain ⟨G, ds, d, e, r, ho, k⟩ := h
    rw [r.length]
    exact (runO_len ho).1
  · obtain ⟨G, ds, d, e, r, ho, k⟩ := h
    obtain ⟨hl, ho⟩ := runO_len ho
    have r0 : Ro K G H G H (L2.start N vs) (padE ds N.length) (List.replicate N.length none) := ⟨.refl e, rs_start r (by omega), fun i d h => (nth_rep _ _ _ h).elim, fun i j di dj l _ h => (nth_rep _ _ _ h).elim⟩
    unfold endO at ho
    split at ho
    · next d' e1 => cases ho; exact ⟨G, H, G, _, _, _, r0, e1, k⟩
    · next ρ' ω' e1 => cases ho; exact ⟨G, H, G, _, _, _, r0, e1, fun σ' G' H' _ r' => k .non G' H' r'.gr .non⟩
    · cases ho
theorem cal_O {x : Str} {st : Stmt} {N ps : List Str} {k : Nat} {fb : Fo} (F : Df K mg x st ps) (S : FnScope N ps (defScope st))
    (hb : ∀ (f : Addr) (cdv : Value) (A : Around) (outer : List Env) (s : Shared) (H : Hp) (E : XK), Room k (A.deeper (PyProof.Rows.envOfC x (defScope st) s.heap.objs.size f cdv)) →
      PSs (cxOf CX0 P w K mg base N x (defScope st) f cdv A outer s H E).nox (defBody st) (oD K fb)) : Cal P w K mg base (k + 1) x (runO ps.length N.length fb) := by
  obtain ⟨f, fd, F, hm, hbi⟩ := F.ex
  exact ⟨f, fd, ps, fn_O F S (hb f), hm, F.kp, hbi⟩
end
end Mv

/-! part Mv8 -/
set_option maxHeartbeats 4000000
namespace Mv
open PySem PySem.Spec L2
/-! ### a comprehension of two clauses, without tests -/
def inL (t1 : Tgt) (vs1 : List Nat) (fe : Ev → Option D) (ρ1 : Ev) : List D → Option (List D)
  | [] => some []
  | d :: ds => (match tgE t1 d (wipeE ρ1 vs1) with
    | some ρ2 => (match fe ρ2 with
      | some y => (match inL t1 vs1 fe ρ1 ds with
        | some ys => some (y :: ys)
        | none => none)
      | none => none)
    | none => none)
def outL (t : Tgt) (f1 : Ev → Option (List D)) (t1 : Tgt) (vs1 : List Nat) (fe : Ev → Option D) (ρ : Ev) : List D → Option (List D)
  | [] => some []
  | d :: ds => (match tgE t d ρ with
    | some ρ1 => (match f1 ρ1 with
      | some es => (match inL t1 vs1 fe ρ1 es with
        | some zs => (match outL t f1 t1 vs1 fe ρ ds with
          | some ys => some (zs ++ ys)
          | none => none)
        | none => none)
      | none => none)
    | none => none)
def comp2E (fi : Ev → Option (List D)) (t : Tgt) (own : List Nat) (f1 : Ev → Option (List D)) (t1 : Tgt) (vs1 : List Nat) (fe : Ev → Option D) : Ev → Option D := fun ρ => match fi ρ with
  | some ds => (match outL t f1 t1 vs1 fe (wipeE ρ own) ds with
    | some ys => mkL ys
    | none => none)
  | none => none
theorem Grow.over {G1 H1 G H : Hp} {a : Addr} {o : HO} (g : Grow G1 H1 G H) (h1 : H1 a = none) (h : G a = none) : Grow G1 H1 G (upd H a o) := by
  refine ⟨g.g, fun b u q => ?_, fun b u q => ?_, g.n⟩
  · have : b ≠ a := fun z => by rw [z, h] at q; cases q
    rw [upd_ne this]; exact g.i _ _ q
  · have : b ≠ a := fun z => by rw [z, h1] at q; cases q
    rw [upd_ne this]; exact g.h _ _ q
def LcS (K : PySem.W.Frag) (G1 H1 : Hp) (Dd : Addr) (G H : Hp) (yi : List D) : Prop := ∃ acc, Grow G1 H1 G H ∧ G Dd = none ∧ H Dd = some (.lst acc) ∧ RpAll K G acc yi
theorem LcS.grow {K : PySem.W.Frag} {G1 H1 G H G' H' : Hp} {Dd : Addr} {yi : List D} (s : LcS K G1 H1 Dd G H yi) (g : Grow G H G' H') : LcS K G1 H1 Dd G' H' yi := by
  obtain ⟨acc, a, b, c, d⟩ := s
  exact ⟨acc, a.trans g, g.n Dd (by rw [c]; trivial) b, g.h _ _ c, RpAll.mono g.g _ _ d⟩
section
variable {X : Cx} {elt tg iter tg1 iter1 : Expr} {scope : Scope} {pos : Pos} {fi f1 : Ev → Option (List D)} {fe : Ev → Option D}
theorem lc2_D {own : List (Str × Nat)} {t t1 : Tgt} {vs1 : List Nat} (hsub : ∀ i ∈ t.slots, i ∈ own.map (·.2)) (hsub1 : ∀ i ∈ t1.slots, i ∈ vs1) : ∀ σ H Q, tD X.K (comp2E fi t (own.map (·.2)) f1 t1 vs1 fe) σ H Q →
    tLc2 (iD X.K fi) (gD X.K t) (bD yesB X.K) (iD X.K f1) (gD X.K t1) (bD yesB X.K) (tD X.K fe) (own.map (·.2)) vs1 σ H Q := by
  rintro σ H Q ⟨G, ρ, d, e, r, hf, k⟩
  unfold comp2E at hf
  split at hf
  · next ds e1 =>
    split at hf
    · next ys e2 =>
      obtain ⟨hlim, rfl⟩ := mkL_some hf
      refine ⟨G, ρ, ds, e, r, e1, fun J G1 H1 g1 it Dd hD => ?_⟩
      let W0 : Nat → Hp → Prop := fun i H => i ≤ ds.length ∧ ∃ G yi rest, LcS X.K G1 H1 Dd G H yi ∧ outL t f1 t1 vs1 fe (wipeE ρ (own.map (·.2))) (ds.drop i) = some rest ∧ ys = yi ++ rest
      refine ⟨fun i m H => m = ds.length - i ∧ W0 i H, ⟨_, rfl, Nat.zero_le _, G1, [], ys, ⟨[], Grow.side g1.i hD, g1.i.free hD, upd_same, .nil⟩, by rw [List.drop_zero]; exact e2, rfl⟩, ?_⟩
      rintro i m H ⟨rfl, hi, G, yi, rest, hs, hrest, rfl⟩
      by_cases hlt : i < ds.length
      · obtain ⟨acc0, gr, _, _, _⟩ := id hs
        obtain ⟨hgo, hy⟩ := it.go G H i _ gr.g gr.i (List.getElem?_eq_getElem hlt)
        refine .inr ⟨hgo, W0 (i + 1), fun H' w => ⟨ds.length - (i + 1), by omega, rfl, w⟩, fun x H' yl => ?_⟩
        obtain ⟨G', gr', rx⟩ := hy x H' yl
        rw [List.drop_eq_getElem_cons hlt] at hrest
        unfold outL at hrest
        split at hrest
        · next ρ1 et =>
          refine ⟨G', _, ds[i], ρ1, gr'.i, (r.mono (g1.g.trans (gr.g.trans gr'.g))).wipe _, rx, et, fun σ2 r2 hw => ⟨(hw _ hsub).trans (wipe_wipe σ _), ?_⟩⟩
          refine ⟨G', ρ1, true, gr'.i, r2, rfl, fun G2 H2 g2 => iteT ?_⟩
          split at hrest
          · next es ee =>
            split at hrest
            · next zs ez =>
              split at hrest
              · next ys' eys =>
                cases hrest
                refine ⟨G2, ρ1, es, g2.i, r2.mono g2.g, ee, fun J1 G3 H3 g3 it1 => ?_⟩
                have s3 := hs.grow (gr'.trans (g2.trans g3))
                let W1 : Nat → Hp → Prop := fun j H => j ≤ es.length ∧ ∃ G zj zrest, Same G3 G ∧ LcS X.K G1 H1 Dd G H (yi ++ zj) ∧ inL t1 vs1 fe ρ1 (es.drop j) = some zrest ∧ zs = zj ++ zrest
                refine ⟨fun j m H => m = es.length - j ∧ W1 j H, ⟨_, rfl, Nat.zero_le _, G3, [], zs, Same.refl _, by rw [List.append_nil]; exact s3, by rw [List.drop_zero]; exact ez, rfl⟩, ?_⟩
                rintro j m H4 ⟨rfl, hj, G4, zj, zrest, sm, s4, hz, rfl⟩
                obtain ⟨acc4, gr4, d4, h4, ra4⟩ := id s4
                by_cases hjt : j < es.length
                · obtain ⟨hgo1, hy1⟩ := it1.go G4 H4 j _ sm gr4.i (List.getElem?_eq_getElem hjt)
                  refine .inr ⟨hgo1, W1 (j + 1), fun H' w => ⟨es.length - (j + 1), by omega, rfl, w⟩, fun x1 H5 yl1 => ?_⟩
                  obtain ⟨G5, g5, rx1⟩ := hy1 x1 H5 yl1
                  rw [List.drop_eq_getElem_cons hjt] at hz
                  unfold inL at hz
                  split at hz
                  · next ρ2 et1 =>
                    refine ⟨G5, _, es[j], ρ2, g5.i, (r2.mono (g2.g.trans (g3.g.trans (sm.trans g5.g)))).wipe vs1, rx1, et1, fun σ3 r3 hw1 => ⟨(hw1 _ hsub1).trans (wipe_wipe σ2 _), ?_⟩⟩
                    refine ⟨G5, ρ2, true, g5.i, r3, rfl, fun G6 H6 g6 => iteT ?_⟩
                    split at hz
                    · next y ey =>
                      split at hz
                      · next zs' ezs =>
                        cases hz
                        refine ⟨G6, ρ2, y, g6.i, r3.mono g6.g, ey, fun v G7 H7 g7 r7 => ?_⟩
                        have gg := g5.trans (g6.trans g7)
                        obtain ⟨acc7, gr7, d7, h7, ra7⟩ := s4.grow gg
                        refine ⟨acc7, h7, ?_, hjt, G7, zj ++ [y], zs', sm.trans gg.g, ⟨acc7 ++ [v], gr7.over hD d7, d7, upd_same, by rw [← List.append_assoc]; exact ra7.append (.cons r7 .nil)⟩, ezs, by simp⟩
                        have l7 := ra7.length
                        have hl : (yi ++ zj).length ≤ lim := Nat.le_trans (by simp) hlim
                        rw [l7]; exact lim_lt hl
                      · cases hz
                    · cases hz
                  · cases hz
                · have ej : j = es.length := by omega
                  subst ej
                  rw [List.drop_length] at hz
                  cases hz
                  refine .inl ⟨it1.stop G4 H4 sm gr4.i, hlt, G4, yi ++ zj, ys', s4, eys, by simp⟩
              · cases hrest
            · cases hrest
          · cases hrest
        · cases hrest
      · have ei : i = ds.length := by omega
        subst ei
        rw [List.drop_length] at hrest
        cases hrest
        obtain ⟨acc, gr, gd, hH, ra⟩ := hs
        refine .inl ⟨it.stop G H gr.g gr.i, k _ (upd G Dd (.lst acc)) H (g1.trans ?_) ?_⟩
        · refine ⟨fun b o q => ?_, fun b o q => ?_, gr.h, fun b h1 h2 => ?_⟩
          · have : b ≠ Dd := fun z => by rw [z, g1.i.free hD] at q; cases q
            rw [upd_ne this]; exact gr.g _ _ q
          · by_cases hb : b = Dd
            · subst hb; rw [upd_same] at q; rw [hH]; exact q
            · rw [upd_ne hb] at q; exact gr.i _ _ q
          · have : b ≠ Dd := fun z => mut_none h1 (by rw [z]; exact hD)
            rw [upd_ne this]; exact gr.n b h1 h2
        · rw [List.append_nil]
          exact .lst upd_same (RpAll.mono (same_new gd) _ _ ra)
    · cases hf
  · cases hf
theorem xlc2 (t t1 : Tgt) (own : List (Str × Nat)) (vs1 : List Nat) (hsub : ∀ i ∈ t.slots, i ∈ own.map (·.2)) (hsub1 : ∀ i ∈ t1.slots, i ∈ vs1) (hv : ∀ i ∈ vs1, i ∈ own.map (·.2)) (hc : X.calm = true) (hN : X.N.Nodup) (hi : PI X tg iter (iD X.K fi)) (ok : BlkOk X.N X.env.scope scope own)
    (hg : ∀ (s : Shared) (H : Hp) (C : Addr) (cl : List (Str × Addr)) (fp : List Addr), PG (X.blk s H scope (compEnvC scope cl C X.env) fp) tg (gD X.K t))
    (hi1 : ∀ (s : Shared) (H : Hp) (C : Addr) (cl : List (Str × Addr)) (fp : List Addr), PI (X.blk s H scope (compEnvC scope cl C X.env) fp) tg1 iter1 (iD X.K f1))
    (hg1 : ∀ (s : Shared) (H : Hp) (C : Addr) (cl : List (Str × Addr)) (fp : List Addr), PG (X.blk s H scope (compEnvC scope cl C X.env) fp) tg1 (gD X.K t1))
    (he : ∀ (s : Shared) (H : Hp) (C : Addr) (cl : List (Str × Addr)) (fp : List Addr), PE (X.blk s H scope (compEnvC scope cl C X.env) fp) elt (tD X.K fe)) (hs : ∀ x, foldedSetIterable iter X.env x = pure x := by intro _; rfl)
    (hs1 : ∀ env x, foldedSetIterable iter1 env x = pure x := by intro _ _; rfl) :
    PE X (.ListComp elt [⟨tg, iter, [], 0⟩, ⟨tg1, iter1, [], 0⟩] scope pos) (tD X.K (comp2E fi t (own.map (·.2)) f1 t1 vs1 fe)) :=
  PE.imp (pe_lc2 hc hN hi ok hv hg (fun _ _ _ _ _ => ts0) hi1 hg1 (fun _ _ _ _ _ => ts0) he hs hs1) (lc2_D hsub hsub1)
end
end Mv

/-! part G1 -/
set_option maxHeartbeats 4000000
namespace Mv
open PySem PySem.Spec L2
section
variable {P : Program} {w : World} {K : PySem.W.Frag} {mg : Str → Option Value} {base : Heap}

/-! ### is_number -/
def B_is_number : Ev → Option Out := (rtE (andV (o1 (isiD .int) (vE 0)) (notV (o1 (isiD .bool) (vE 0)))))
def F_is_number : List D → Option D := runF 1 1 B_is_number
theorem sc_is_number : FnScope ["thing"] ["thing"] (defScope (topS 5)) := ⟨rfl, rfl, rfl, by decide +kernel, rfl, by decide +kernel, by decide +kernel⟩
theorem cal_is_number (B : Bt mg) (F : Df K mg "is_number" (topS 5) ["thing"])   : Cal P w K mg base 1 "is_number" F_is_number :=
  cal_D (N := ["thing"]) F sc_is_number fun f cdv A outer s H E hr => have nd := (sc_is_number).nd
    (z1 (zret (xand (xisi .int nofun (by decide +kernel) B.isinstance B.int_ rfl rfl (xv 0 rfl (Or.inl rfl))) (xone (xnot (xisi .bool nofun (by decide +kernel) B.isinstance B.bool_ rfl rfl (xv 0 rfl (Or.inl rfl))))))))


/-! ### is_within -/
def B_is_within : Ev → Option Out := (rtE (andV (aE F_is_number (consA (vE 0) nilA)) (chE dLe dLe (vE 1) (vE 0) (vE 2))))
def F_is_within : List D → Option D := runF 3 3 B_is_within
theorem sc_is_within : FnScope ["thing", "least", "most"] ["thing", "least", "most"] (defScope (topS 6)) := ⟨rfl, rfl, rfl, by decide +kernel, rfl, by decide +kernel, by decide +kernel⟩
theorem cal_is_within (B : Bt mg) (F : Df K mg "is_within" (topS 6) ["thing", "least", "most"]) (c_is_number : Cal P w K mg base 1 "is_number" F_is_number)  : Cal P w K mg base 2 "is_within" F_is_within :=
  cal_D (N := ["thing", "least", "most"]) F sc_is_within fun f cdv A outer s H E hr => have nd := (sc_is_within).nd
    (z1 (zret (xand (xcall c_is_number hr (by decide) rfl (ac (xv 0 rfl (Or.inl rfl)) an)) (xone (xchain op_dLe op_dLe (xv 1 rfl (Or.inl rfl)) (xv 0 rfl (Or.inl rfl)) (xv 2 rfl (Or.inl rfl)) rfl)))))


/-! ### is_long -/
def B_is_long : Ev → Option Out := (rtE (andV (o1 (isiD .tuple) (vE 0)) (o2 dEq (aE lenD (consA (vE 0) nilA)) (vE 1))))
def F_is_long : List D → Option D := runF 2 2 B_is_long
theorem sc_is_long : FnScope ["thing", "length"] ["thing", "length"] (defScope (topS 7)) := ⟨rfl, rfl, rfl, by decide +kernel, rfl, by decide +kernel, by decide +kernel⟩
theorem cal_is_long (B : Bt mg) (F : Df K mg "is_long" (topS 7) ["thing", "length"])   : Cal P w K mg base 1 "is_long" F_is_long :=
  cal_D (N := ["thing", "length"]) F sc_is_long fun f cdv A outer s H E hr => have nd := (sc_is_long).nd
    (z1 (zret (xand (xisi .tuple nofun (by decide +kernel) B.isinstance B.tuple_ rfl rfl (xv 0 rfl (Or.inl rfl))) (xone (xcmp (op_dEq hr.units) (xcallB cl_len (by decide +kernel) B.len_ rfl (ac (xv 0 rfl (Or.inl rfl)) an)) (xv 1 rfl (Or.inl rfl)) (nomark _))))))


/-! ### more_at -/
def B_more_at : Ev → Option Out := (rtE (o2 dAdd (o2 dAdd (slE (vE 0) none (some (vE 1))) (aE mkT (consA (o2 dAdd (o2 dIx (vE 0) (vE 1)) (vE 2)) nilA))) (slE (vE 0) (some (o2 dAdd (vE 1) (cE (.int 1)))) none)))
def F_more_at : List D → Option D := runF 3 3 B_more_at
theorem sc_more_at : FnScope ["row", "place", "by"] ["row", "place", "by"] (defScope (topS 18)) := ⟨rfl, rfl, rfl, by decide +kernel, rfl, by decide +kernel, by decide +kernel⟩
theorem cal_more_at (B : Bt mg) (F : Df K mg "more_at" (topS 18) ["row", "place", "by"])   : Cal P w K mg base 1 "more_at" F_more_at :=
  cal_D (N := ["row", "place", "by"]) F sc_more_at fun f cdv A outer s H E hr => have nd := (sc_more_at).nd
    (z1 (zret (xo2 op_dAdd (xo2 op_dAdd (xslice (xv 0 rfl (Or.inl rfl)) pno (psm (xv 1 rfl (Or.inl rfl)))) (xtup (ac (xo2 op_dAdd (xix (xv 0 rfl (Or.inl rfl)) (xv 1 rfl (Or.inl rfl))) (xv 2 rfl (Or.inl rfl))) an))) (xslice (xv 0 rfl (Or.inl rfl)) (psm (xo2 op_dAdd (xv 1 rfl (Or.inl rfl)) xc_int)) pno))))


/-! ### flipped -/
def B_flipped : Ev → Option Out := (rtE (aE F_more_at (consA (vE 0) (consA (vE 1) (consA (o2 dMul (o1 dNeg (cE (.int 2))) (o2 dIx (vE 0) (vE 1))) nilA)))))
def F_flipped : List D → Option D := runF 2 2 B_flipped
theorem sc_flipped : FnScope ["row", "place"] ["row", "place"] (defScope (topS 19)) := ⟨rfl, rfl, rfl, by decide +kernel, rfl, by decide +kernel, by decide +kernel⟩
theorem cal_flipped (B : Bt mg) (F : Df K mg "flipped" (topS 19) ["row", "place"]) (c_more_at : Cal P w K mg base 1 "more_at" F_more_at)  : Cal P w K mg base 2 "flipped" F_flipped :=
  cal_D (N := ["row", "place"]) F sc_flipped fun f cdv A outer s H E hr => have nd := (sc_flipped).nd
    (z1 (zret (xcall c_more_at hr (by decide) rfl (ac (xv 0 rfl (Or.inl rfl)) (ac (xv 1 rfl (Or.inl rfl)) (ac (xo2 op_dMul (xo1 un_dNeg xc_int) (xix (xv 0 rfl (Or.inl rfl)) (xv 1 rfl (Or.inl rfl)))) an))))))


/-! ### tipped_in -/
def B_tipped_in : Ev → Option Out := (sqE (atE (.tup [3, 4, 5, 6]) (vE 0))
  (sqE (atE (.tup [7, 8, 9]) (vE 3))
  (sqE (asE 2 (ifE (toB (o2 dLt (vE 1) (cE (.int 2)))) (cE (.int 1)) (o1 dNeg (cE (.int 1)))))
  (sqE (isE (toB (o2 dEq (o2 dMod (vE 1) (cE (.int 2))) (cE (.int 0)))) (rtE (aE mkT (consA (aE mkT (consA (vE 9) (consA (vE 8) (consA (vE 7) nilA)))) (consA (aE F_more_at (consA (aE F_more_at (consA (vE 4) (consA (vE 7) (consA (vE 2) nilA)))) (consA (vE 9) (consA (vE 2) nilA)))) (consA (vE 5) (consA (aE F_flipped (consA (vE 6) (consA (ifE (toB (o2 dEq (vE 2) (cE (.int 1)))) (vE 7) (vE 9)) nilA))) nilA)))))) ndE)
  (rtE (aE mkT (consA (aE mkT (consA (vE 7) (consA (vE 9) (consA (vE 8) nilA)))) (consA (vE 4) (consA (aE F_more_at (consA (aE F_more_at (consA (vE 5) (consA (vE 8) (consA (vE 2) nilA)))) (consA (vE 9) (consA (vE 2) nilA)))) (consA (aE F_flipped (consA (vE 6) (consA (ifE (toB (o2 dEq (vE 2) (cE (.int 1)))) (vE 8) (vE 9)) nilA))) nilA))))))))))
def F_tipped_in : List D → Option D := runF 2 10 B_tipped_in
theorem sc_tipped_in : FnScope ["stand", "way", "by", "shape", "xs", "ys", "fronts", "i", "j", "k"] ["stand", "way"] (defScope (topS 20)) := ⟨rfl, rfl, rfl, by decide +kernel, rfl, by decide +kernel, by decide +kernel⟩
theorem cal_tipped_in (B : Bt mg) (F : Df K mg "tipped_in" (topS 20) ["stand", "way"]) (c_more_at : Cal P w K mg base 1 "more_at" F_more_at) (c_flipped : Cal P w K mg base 2 "flipped" F_flipped)  : Cal P w K mg base 3 "tipped_in" F_tipped_in :=
  cal_D (N := ["stand", "way", "by", "shape", "xs", "ys", "fronts", "i", "j", "k"]) F sc_tipped_in fun f cdv A outer s H E hr => have nd := (sc_tipped_in).nd
    (zc (zasg (xv 0 rfl (Or.inl rfl)) (gt rfl (gn1 (pg_name nd rfl (Or.inl rfl)) (gn1 (pg_name nd rfl (Or.inl rfl)) (gn1 (pg_name nd rfl (Or.inl rfl)) (gn1 (pg_name nd rfl (Or.inl rfl)) gn0))))))
    (zc (zasg (xv 3 rfl (Or.inl rfl)) (gt rfl (gn1 (pg_name nd rfl (Or.inl rfl)) (gn1 (pg_name nd rfl (Or.inl rfl)) (gn1 (pg_name nd rfl (Or.inl rfl)) gn0)))))
    (zc (zset (i := 2) nd rfl (Or.inl rfl) (xif (tcmp op_dLt (xv 1 rfl (Or.inl rfl)) xc_int (nomark _)) xc_int (xo1 un_dNeg xc_int)))
    (zc (zif (tcmp (op_dEq hr.units) (xo2 op_dMod (xv 1 rfl (Or.inl rfl)) xc_int) xc_int (nomark _)) (z1 (zret (xtup (ac (xtup (ac (xv 9 rfl (Or.inl rfl)) (ac (xv 8 rfl (Or.inl rfl)) (ac (xv 7 rfl (Or.inl rfl)) an)))) (ac (xcall c_more_at hr (by decide) rfl (ac (xcall c_more_at hr (by decide) rfl (ac (xv 4 rfl (Or.inl rfl)) (ac (xv 7 rfl (Or.inl rfl)) (ac (xv 2 rfl (Or.inl rfl)) an)))) (ac (xv 9 rfl (Or.inl rfl)) (ac (xv 2 rfl (Or.inl rfl)) an)))) (ac (xv 5 rfl (Or.inl rfl)) (ac (xcall c_flipped hr (by decide) rfl (ac (xv 6 rfl (Or.inl rfl)) (ac (xif (tcmp (op_dEq hr.units) (xv 2 rfl (Or.inl rfl)) xc_int (nomark _)) (xv 7 rfl (Or.inl rfl)) (xv 9 rfl (Or.inl rfl))) an))) an))))))) zn)
    (z1 (zret (xtup (ac (xtup (ac (xv 7 rfl (Or.inl rfl)) (ac (xv 9 rfl (Or.inl rfl)) (ac (xv 8 rfl (Or.inl rfl)) an)))) (ac (xv 4 rfl (Or.inl rfl)) (ac (xcall c_more_at hr (by decide) rfl (ac (xcall c_more_at hr (by decide) rfl (ac (xv 5 rfl (Or.inl rfl)) (ac (xv 8 rfl (Or.inl rfl)) (ac (xv 2 rfl (Or.inl rfl)) an)))) (ac (xv 9 rfl (Or.inl rfl)) (ac (xv 2 rfl (Or.inl rfl)) an)))) (ac (xcall c_flipped hr (by decide) rfl (ac (xv 6 rfl (Or.inl rfl)) (ac (xif (tcmp (op_dEq hr.units) (xv 2 rfl (Or.inl rfl)) xc_int (nomark _)) (xv 8 rfl (Or.inl rfl)) (xv 9 rfl (Or.inl rfl))) an))) an)))))))))))


/-! ### turned_in -/
def B_turned_in : Ev → Option Out := (sqE (atE (.tup [5, 6, 7, 8]) (vE 0))
  (sqE (atE (.tup [9, 10, 11]) (vE 5))
  (sqE (asE 3 (ifE (toB (o2 dIn (vE 1) (aE mkT (consA (cE (.int 1)) (consA (cE (.int 2)) nilA))))) (cE (.int 1)) (o1 dNeg (cE (.int 1)))))
  (sqE (asE 4 (ifE (toB (o2 dGe (vE 1) (cE (.int 2)))) (cE (.int 1)) (o1 dNeg (cE (.int 1)))))
  (sqE (isE (toB (o2 dEq (vE 2) (cE (.int 1)))) (sqE (paE [6, 7] (consA (aE F_more_at (consA (aE F_more_at (consA (vE 6) (consA (vE 9) (consA (vE 3) nilA)))) (consA (vE 10) (consA (vE 4) nilA)))) (consA (aE F_more_at (consA (aE F_more_at (consA (vE 7) (consA (vE 9) (consA (o1 dNeg (vE 3)) nilA)))) (consA (vE 10) (consA (vE 4) nilA)))) nilA)))
  (rtE (aE mkT (consA (aE mkT (consA (vE 10) (consA (vE 9) (consA (vE 11) nilA)))) (consA (vE 6) (consA (vE 7) (consA (aE F_flipped (consA (vE 8) (consA (vE 10) nilA))) nilA))))))) ndE)
  (sqE (paE [6, 7] (consA (aE F_more_at (consA (aE F_more_at (consA (vE 6) (consA (vE 9) (consA (vE 3) nilA)))) (consA (vE 10) (consA (o1 dNeg (vE 4)) nilA)))) (consA (aE F_more_at (consA (aE F_more_at (consA (vE 7) (consA (vE 9) (consA (vE 3) nilA)))) (consA (vE 10) (consA (vE 4) nilA)))) nilA)))
  (rtE (aE mkT (consA (aE mkT (consA (vE 10) (consA (vE 9) (consA (vE 11) nilA)))) (consA (vE 6) (consA (vE 7) (consA (aE F_flipped (consA (vE 8) (consA (vE 9) nilA))) nilA))))))))))))
def F_turned_in : List D → Option D := runF 3 12 B_turned_in
theorem sc_turned_in : FnScope ["stand", "corner", "hand", "east", "north", "shape", "xs", "ys", "fronts", "i", "j", "k"] ["stand", "corner", "hand"] (defScope (topS 21)) := ⟨rfl, rfl, rfl, by decide +kernel, rfl, by decide +kernel, by decide +kernel⟩
theorem cal_turned_in (B : Bt mg) (F : Df K mg "turned_in" (topS 21) ["stand", "corner", "hand"]) (c_more_at : Cal P w K mg base 1 "more_at" F_more_at) (c_flipped : Cal P w K mg base 2 "flipped" F_flipped)  : Cal P w K mg base 3 "turned_in" F_turned_in :=
  cal_D (N := ["stand", "corner", "hand", "east", "north", "shape", "xs", "ys", "fronts", "i", "j", "k"]) F sc_turned_in fun f cdv A outer s H E hr => have nd := (sc_turned_in).nd
    (zc (zasg (xv 0 rfl (Or.inl rfl)) (gt rfl (gn1 (pg_name nd rfl (Or.inl rfl)) (gn1 (pg_name nd rfl (Or.inl rfl)) (gn1 (pg_name nd rfl (Or.inl rfl)) (gn1 (pg_name nd rfl (Or.inl rfl)) gn0))))))
    (zc (zasg (xv 5 rfl (Or.inl rfl)) (gt rfl (gn1 (pg_name nd rfl (Or.inl rfl)) (gn1 (pg_name nd rfl (Or.inl rfl)) (gn1 (pg_name nd rfl (Or.inl rfl)) gn0)))))
    (zc (zset (i := 3) nd rfl (Or.inl rfl) (xif (tcmp (op_dIn (u65 hr)) (xv 1 rfl (Or.inl rfl)) (xtup (ac xc_int (ac xc_int an))) rfl) xc_int (xo1 un_dNeg xc_int)))
    (zc (zset (i := 4) nd rfl (Or.inl rfl) (xif (tcmp op_dGe (xv 1 rfl (Or.inl rfl)) xc_int (nomark _)) xc_int (xo1 un_dNeg xc_int)))
    (zc (zif (tcmp (op_dEq hr.units) (xv 2 rfl (Or.inl rfl)) xc_int (nomark _)) (zc (zpar2 (i := 6) (j := 7) rfl nd rfl rfl (by decide) rfl rfl (ac (xcall c_more_at hr (by decide) rfl (ac (xcall c_more_at hr (by decide) rfl (ac (xv 6 rfl (Or.inl rfl)) (ac (xv 9 rfl (Or.inl rfl)) (ac (xv 3 rfl (Or.inl rfl)) an)))) (ac (xv 10 rfl (Or.inl rfl)) (ac (xv 4 rfl (Or.inl rfl)) an)))) (ac (xcall c_more_at hr (by decide) rfl (ac (xcall c_more_at hr (by decide) rfl (ac (xv 7 rfl (Or.inl rfl)) (ac (xv 9 rfl (Or.inl rfl)) (ac (xo1 un_dNeg (xv 3 rfl (Or.inl rfl))) an)))) (ac (xv 10 rfl (Or.inl rfl)) (ac (xv 4 rfl (Or.inl rfl)) an)))) an)) rfl)
    (z1 (zret (xtup (ac (xtup (ac (xv 10 rfl (Or.inl rfl)) (ac (xv 9 rfl (Or.inl rfl)) (ac (xv 11 rfl (Or.inl rfl)) an)))) (ac (xv 6 rfl (Or.inl rfl)) (ac (xv 7 rfl (Or.inl rfl)) (ac (xcall c_flipped hr (by decide) rfl (ac (xv 8 rfl (Or.inl rfl)) (ac (xv 10 rfl (Or.inl rfl)) an))) an)))))))) zn)
    (zc (zpar2 (i := 6) (j := 7) rfl nd rfl rfl (by decide) rfl rfl (ac (xcall c_more_at hr (by decide) rfl (ac (xcall c_more_at hr (by decide) rfl (ac (xv 6 rfl (Or.inl rfl)) (ac (xv 9 rfl (Or.inl rfl)) (ac (xv 3 rfl (Or.inl rfl)) an)))) (ac (xv 10 rfl (Or.inl rfl)) (ac (xo1 un_dNeg (xv 4 rfl (Or.inl rfl))) an)))) (ac (xcall c_more_at hr (by decide) rfl (ac (xcall c_more_at hr (by decide) rfl (ac (xv 7 rfl (Or.inl rfl)) (ac (xv 9 rfl (Or.inl rfl)) (ac (xv 3 rfl (Or.inl rfl)) an)))) (ac (xv 10 rfl (Or.inl rfl)) (ac (xv 4 rfl (Or.inl rfl)) an)))) an)) rfl)
    (z1 (zret (xtup (ac (xtup (ac (xv 10 rfl (Or.inl rfl)) (ac (xv 9 rfl (Or.inl rfl)) (ac (xv 11 rfl (Or.inl rfl)) an)))) (ac (xv 6 rfl (Or.inl rfl)) (ac (xv 7 rfl (Or.inl rfl)) (ac (xcall c_flipped hr (by decide) rfl (ac (xv 8 rfl (Or.inl rfl)) (ac (xv 9 rfl (Or.inl rfl)) an))) an)))))))))))))


/-! ### moved_in -/
def B_moved_in : Ev → Option Out := (rtE (ifE (toB (o2 dEq (o2 dIx (vE 1) (cE (.int 0))) (cE (.str "tip")))) (aE F_tipped_in (consA (vE 0) (consA (o2 dIx (vE 1) (cE (.int 1))) nilA))) (aE F_turned_in (consA (vE 0) (consA (o2 dIx (vE 1) (cE (.int 1))) (consA (o2 dIx (vE 1) (cE (.int 2))) nilA))))))
def F_moved_in : List D → Option D := runF 2 2 B_moved_in
theorem sc_moved_in : FnScope ["stand", "move"] ["stand", "move"] (defScope (topS 22)) := ⟨rfl, rfl, rfl, by decide +kernel, rfl, by decide +kernel, by decide +kernel⟩
theorem cal_moved_in (B : Bt mg) (F : Df K mg "moved_in" (topS 22) ["stand", "move"]) (c_tipped_in : Cal P w K mg base 3 "tipped_in" F_tipped_in) (c_turned_in : Cal P w K mg base 3 "turned_in" F_turned_in)  : Cal P w K mg base 4 "moved_in" F_moved_in :=
  cal_D (N := ["stand", "move"]) F sc_moved_in fun f cdv A outer s H E hr => have nd := (sc_moved_in).nd
    (z1 (zret (xif (tcmp (op_dEq hr.units) (xix (xv 1 rfl (Or.inl rfl)) xc_int) xc_str (nomark _)) (xcall c_tipped_in hr (by decide) rfl (ac (xv 0 rfl (Or.inl rfl)) (ac (xix (xv 1 rfl (Or.inl rfl)) xc_int) an))) (xcall c_turned_in hr (by decide) rfl (ac (xv 0 rfl (Or.inl rfl)) (ac (xix (xv 1 rfl (Or.inl rfl)) xc_int) (ac (xix (xv 1 rfl (Or.inl rfl)) xc_int) an)))))))

end
end Mv

/-! part G2 -/
set_option maxHeartbeats 4000000
namespace Mv
open PySem PySem.Spec L2
section
variable {P : Program} {w : World} {K : PySem.W.Frag} {mg : Str → Option Value} {base : Heap}

/-! ### tupled -/
def B_tupled (F_tupled : List D → Option D) : Ev → Option Out := (rtE (ifE (toB (o1 (isi2D .list .tuple) (vE 0))) (aE tupleD (consA (compE (seqE (vE 0)) (.one 1) ([1]) yesB (aE F_tupled (consA (vE 1) nilA))) nilA)) (vE 0)))
def F_tupledN : Nat → List D → Option D
  | 0 => fun _ => none
  | n + 1 => runF 1 2 (B_tupled (F_tupledN n))
def F_tupled : List D → Option D := F_tupledN 6
theorem sc_tupled : FnScope ["value", "own"] ["value"] (defScope (topS 8)) := ⟨rfl, rfl, rfl, by decide +kernel, rfl, by decide +kernel, by decide +kernel⟩
theorem cal_tupledN (B : Bt mg) (F : Df K mg "tupled" (topS 8) ["value"])   : ∀ n : Nat, Cal P w K mg base (n + 1) "tupled" (F_tupledN n)
  | 0 => cal_none F
  | n + 1 => have c_tupled : Cal P w K mg base (n + 1) "tupled" (F_tupledN n) := cal_tupledN B F n
    cal_D (N := ["value", "own"]) F sc_tupled fun f cdv A outer s H E hr => have nd := (sc_tupled).nd
    (z1 (zret (xif (tval (xisi2 .list .tuple nofun nofun (by decide +kernel) (by decide +kernel) B.isinstance B.list_ B.tuple_ rfl rfl rfl (xv 0 rfl (Or.inl rfl)))) (xcallTy cl_tuple (by decide +kernel) B.tuple_ rfl (ac (xlc (.one 1) [("own", 1)] (by decide) rfl nd (iseq (xv 0 rfl (Or.inl rfl))) (blkOk_by (N := ["value", "own"]) (sc := defScope (topS 8)) (by decide +kernel)) (fun _ _ _ _ _ => (g1 nd rfl (Or.inl rfl))) (fun _ _ _ _ _ => ts0) (fun _ _ _ _ _ => (xcall c_tupled hr (Nat.le_refl _) rfl (ac (xv 1 rfl (Or.inl rfl)) an)))) an)) (xv 0 rfl (Or.inl rfl)))))
theorem cal_tupled (B : Bt mg) (F : Df K mg "tupled" (topS 8) ["value"])   : Cal P w K mg base 7 "tupled" F_tupled := cal_tupledN B F 6


/-! ### are_numbers -/
def B_are_numbers : Ev → Option Out := (rtE (andV (o1 (isiD .tuple) (vE 0)) (aE allD (consA (compE (seqE (vE 0)) (.one 1) ([1]) yesB (aE F_is_number (consA (vE 1) nilA))) nilA))))
def F_are_numbers : List D → Option D := runF 1 2 B_are_numbers
theorem sc_are_numbers : FnScope ["thing", "own"] ["thing"] (defScope (topS 10)) := ⟨rfl, rfl, rfl, by decide +kernel, rfl, by decide +kernel, by decide +kernel⟩
theorem cal_are_numbers (B : Bt mg) (F : Df K mg "are_numbers" (topS 10) ["thing"]) (c_is_number : Cal P w K mg base 1 "is_number" F_is_number)  : Cal P w K mg base 2 "are_numbers" F_are_numbers :=
  cal_D (N := ["thing", "own"]) F sc_are_numbers fun f cdv A outer s H E hr => have nd := (sc_are_numbers).nd
    (z1 (zret (xand (xisi .tuple nofun (by decide +kernel) B.isinstance B.tuple_ rfl rfl (xv 0 rfl (Or.inl rfl))) (xone (xcallB (cl_all rfl) (by decide +kernel) B.all_ rfl (ac (xlc (.one 1) [("own", 1)] (by decide) rfl nd (iseq (xv 0 rfl (Or.inl rfl))) (blkOk_by (N := ["thing", "own"]) (sc := defScope (topS 10)) (by decide +kernel)) (fun _ _ _ _ _ => (g1 nd rfl (Or.inl rfl))) (fun _ _ _ _ _ => ts0) (fun _ _ _ _ _ => (xcall c_is_number hr (by decide) rfl (ac (xv 1 rfl (Or.inl rfl)) an)))) an))))))


/-! ### is_shape -/
def B_is_shape : Ev → Option Out := (rtE (andV (aE F_is_long (consA (vE 0) (consA (cE (.int 3)) nilA))) (andV (aE allD (consA (compE (seqE (vE 0)) (.one 1) ([1]) yesB (aE F_is_number (consA (vE 1) nilA))) nilA)) (o2 dIn (vE 0) (cE ringD)))))
def F_is_shape : List D → Option D := runF 1 2 B_is_shape
theorem sc_is_shape : FnScope ["thing", "own"] ["thing"] (defScope (topS 13)) := ⟨rfl, rfl, rfl, by decide +kernel, rfl, by decide +kernel, by decide +kernel⟩
theorem cal_is_shape (B : Bt mg) (F : Df K mg "is_shape" (topS 13) ["thing"]) (c_is_long : Cal P w K mg base 1 "is_long" F_is_long) (c_is_number : Cal P w K mg base 1 "is_number" F_is_number) (c_RING : Gc K mg "RING" ringD) : Cal P w K mg base 2 "is_shape" F_is_shape :=
  cal_D (N := ["thing", "own"]) F sc_is_shape fun f cdv A outer s H E hr => have nd := (sc_is_shape).nd
    (z1 (zret (xand (xcall c_is_long hr (by decide) rfl (ac (xv 0 rfl (Or.inl rfl)) (ac xc_int an))) (xand (xcallB (cl_all rfl) (by decide +kernel) B.all_ rfl (ac (xlc (.one 1) [("own", 1)] (by decide) rfl nd (iseq (xv 0 rfl (Or.inl rfl))) (blkOk_by (N := ["thing", "own"]) (sc := defScope (topS 13)) (by decide +kernel)) (fun _ _ _ _ _ => (g1 nd rfl (Or.inl rfl))) (fun _ _ _ _ _ => ts0) (fun _ _ _ _ _ => (xcall c_is_number hr (by decide) rfl (ac (xv 1 rfl (Or.inl rfl)) an)))) an)) (xone (xcmp (op_dIn (u65 hr)) (xv 0 rfl (Or.inl rfl)) (xgl c_RING rfl) rfl))))))


/-! ### is_stand -/
def B_is_stand : Ev → Option Out := (sqE (isE (orB (notB (toB (aE F_is_long (consA (vE 0) (consA (cE (.int 4)) nilA))))) (notB (toB (aE F_is_shape (consA (o2 dIx (vE 0) (cE (.int 0))) nilA))))) (rtE (cE (.bool false))) ndE)
  (sqE (isE (notB (toB (aE allD (consA (compE (seqE (slE (vE 0) (some (cE (.int 1))) none)) (.one 1) ([1]) yesB (andV (aE F_is_long (consA (vE 1) (consA (cE (.int 3)) nilA))) (aE F_are_numbers (consA (vE 1) nilA)))) nilA)))) (rtE (cE (.bool false))) ndE)
  (rtE (aE allD (consA (compE (seqE (o2 dIx (vE 0) (cE (.int 3)))) (.one 1) ([1]) yesB (o2 dIn (vE 1) (aE mkT (consA (cE (.int 1)) (consA (o1 dNeg (cE (.int 1))) nilA))))) nilA)))))
def F_is_stand : List D → Option D := runF 1 2 B_is_stand
theorem sc_is_stand : FnScope ["thing", "own"] ["thing"] (defScope (topS 15)) := ⟨rfl, rfl, rfl, by decide +kernel, rfl, by decide +kernel, by decide +kernel⟩
theorem cal_is_stand (B : Bt mg) (F : Df K mg "is_stand" (topS 15) ["thing"]) (c_is_long : Cal P w K mg base 1 "is_long" F_is_long) (c_is_shape : Cal P w K mg base 2 "is_shape" F_is_shape) (c_are_numbers : Cal P w K mg base 2 "are_numbers" F_are_numbers)  : Cal P w K mg base 3 "is_stand" F_is_stand :=
  cal_D (N := ["thing", "own"]) F sc_is_stand fun f cdv A outer s H E hr => have nd := (sc_is_stand).nd
    (zc (zif (PW.pt (tor (tnot (tval (xcall c_is_long hr (by decide) rfl (ac (xv 0 rfl (Or.inl rfl)) (ac xc_int an))))) (tor1 (tnot (tval (xcall c_is_shape hr (by decide) rfl (ac (xix (xv 0 rfl (Or.inl rfl)) xc_int) an))))))) (z1 (zret xc_bl)) zn)
    (zc (zif (tnot (tval (xcallB (cl_all rfl) (by decide +kernel) B.all_ rfl (ac (xlc (.one 1) [("own", 1)] (by decide) rfl nd (iseq (xslice (xv 0 rfl (Or.inl rfl)) (psm xc_int) pno)) (blkOk_by (N := ["thing", "own"]) (sc := defScope (topS 15)) (by decide +kernel)) (fun _ _ _ _ _ => (g1 nd rfl (Or.inl rfl))) (fun _ _ _ _ _ => ts0) (fun _ _ _ _ _ => (xand (xcall c_is_long hr (by decide) rfl (ac (xv 1 rfl (Or.inl rfl)) (ac xc_int an))) (xone (xcall c_are_numbers hr (by decide) rfl (ac (xv 1 rfl (Or.inl rfl)) an)))))) an)))) (z1 (zret xc_bl)) zn)
    (z1 (zret (xcallB (cl_all rfl) (by decide +kernel) B.all_ rfl (ac (xlc (.one 1) [("own", 1)] (by decide) rfl nd (iseq (xix (xv 0 rfl (Or.inl rfl)) xc_int)) (blkOk_by (N := ["thing", "own"]) (sc := defScope (topS 15)) (by decide +kernel)) (fun _ _ _ _ _ => (g1 nd rfl (Or.inl rfl))) (fun _ _ _ _ _ => ts0) (fun _ _ _ _ _ => (xcmp (op_dIn (u65 hr)) (xv 1 rfl (Or.inl rfl)) (xtup (ac xc_int (ac (xo1 un_dNeg xc_int) an))) rfl))) an))))))


/-! ### sure_stand -/
def B_sure_stand : Ev → Option Out := (sqE (asE 1 (aE F_tupled (consA (vE 0) nilA)))
  (sqE (isE (notB (toB (aE F_is_stand (consA (vE 1) nilA)))) nvE ndE)
  (rtE (vE 1))))
def F_sure_stand : List D → Option D := runF 1 2 B_sure_stand
theorem sc_sure_stand : FnScope ["stand", "own"] ["stand"] (defScope (topS 16)) := ⟨rfl, rfl, rfl, by decide +kernel, rfl, by decide +kernel, by decide +kernel⟩
theorem cal_sure_stand (B : Bt mg) (F : Df K mg "sure_stand" (topS 16) ["stand"]) (c_tupled : Cal P w K mg base 7 "tupled" F_tupled) (c_is_stand : Cal P w K mg base 3 "is_stand" F_is_stand)  : Cal P w K mg base 8 "sure_stand" F_sure_stand :=
  cal_D (N := ["stand", "own"]) F sc_sure_stand fun f cdv A outer s H E hr => have nd := (sc_sure_stand).nd
    (zc (zset (i := 1) nd rfl (Or.inl rfl) (xcall c_tupled hr (by decide) rfl (ac (xv 0 rfl (Or.inl rfl)) an)))
    (zc (zif (tnot (tval (xcall c_is_stand hr (by decide) rfl (ac (xv 1 rfl (Or.inl rfl)) an)))) znever zn)
    (z1 (zret (xv 1 rfl (Or.inl rfl))))))


/-! ### is_move -/
def B_is_move : Ev → Option Out := (sqE (isE (toB (aE F_is_long (consA (vE 0) (consA (cE (.int 2)) nilA)))) (rtE (andV (o2 dEq (o2 dIx (vE 0) (cE (.int 0))) (cE (.str "tip"))) (aE F_is_within (consA (o2 dIx (vE 0) (cE (.int 1))) (consA (cE (.int 0)) (consA (cE (.int 3)) nilA)))))) ndE)
  (sqE (isE (orB (notB (toB (aE F_is_long (consA (vE 0) (consA (cE (.int 3)) nilA))))) (orB (toB (o2 dNe (o2 dIx (vE 0) (cE (.int 0))) (cE (.str "turn")))) (notB (toB (aE F_is_within (consA (o2 dIx (vE 0) (cE (.int 1))) (consA (cE (.int 0)) (consA (cE (.int 3)) nilA)))))))) (rtE (cE (.bool false))) ndE)
  (rtE (andV (aE F_is_number (consA (o2 dIx (vE 0) (cE (.int 2))) nilA)) (o2 dIn (o2 dIx (vE 0) (cE (.int 2))) (aE mkT (consA (cE (.int 1)) (consA (o1 dNeg (cE (.int 1))) nilA))))))))
def F_is_move : List D → Option D := runF 1 1 B_is_move
theorem sc_is_move : FnScope ["thing"] ["thing"] (defScope (topS 17)) := ⟨rfl, rfl, rfl, by decide +kernel, rfl, by decide +kernel, by decide +kernel⟩
theorem cal_is_move (B : Bt mg) (F : Df K mg "is_move" (topS 17) ["thing"]) (c_is_long : Cal P w K mg base 1 "is_long" F_is_long) (c_is_within : Cal P w K mg base 2 "is_within" F_is_within) (c_is_number : Cal P w K mg base 1 "is_number" F_is_number)  : Cal P w K mg base 3 "is_move" F_is_move :=
  cal_D (N := ["thing"]) F sc_is_move fun f cdv A outer s H E hr => have nd := (sc_is_move).nd
    (zc (zif (tval (xcall c_is_long hr (by decide) rfl (ac (xv 0 rfl (Or.inl rfl)) (ac xc_int an)))) (z1 (zret (xand (xcmp (op_dEq hr.units) (xix (xv 0 rfl (Or.inl rfl)) xc_int) xc_str (nomark _)) (xone (xcall c_is_within hr (by decide) rfl (ac (xix (xv 0 rfl (Or.inl rfl)) xc_int) (ac xc_int (ac xc_int an)))))))) zn)
    (zc (zif (PW.pt (tor (tnot (tval (xcall c_is_long hr (by decide) rfl (ac (xv 0 rfl (Or.inl rfl)) (ac xc_int an))))) (tor (tcmp (op_dNe hr.units) (xix (xv 0 rfl (Or.inl rfl)) xc_int) xc_str (nomark _)) (tor1 (tnot (tval (xcall c_is_within hr (by decide) rfl (ac (xix (xv 0 rfl (Or.inl rfl)) xc_int) (ac xc_int (ac xc_int an)))))))))) (z1 (zret xc_bl)) zn)
    (z1 (zret (xand (xcall c_is_number hr (by decide) rfl (ac (xix (xv 0 rfl (Or.inl rfl)) xc_int) an)) (xone (xcmp (op_dIn (u65 hr)) (xix (xv 0 rfl (Or.inl rfl)) xc_int) (xtup (ac xc_int (ac (xo1 un_dNeg xc_int) an))) rfl)))))))


/-! ### is_row_in -/
def B_is_row_in : Ev → Option Out := (rtE (andV (o1 (isiD .tuple) (vE 0)) (aE allD (consA (compE (seqE (vE 0)) (.one 1) ([1]) yesB (aE F_is_move (consA (vE 1) nilA))) nilA))))
def F_is_row_in : List D → Option D := runF 1 2 B_is_row_in
theorem sc_is_row_in : FnScope ["thing", "move"] ["thing"] (defScope (topS 24)) := ⟨rfl, rfl, rfl, by decide +kernel, rfl, by decide +kernel, by decide +kernel⟩
theorem cal_is_row_in (B : Bt mg) (F : Df K mg "is_row_in" (topS 24) ["thing"]) (c_is_move : Cal P w K mg base 3 "is_move" F_is_move)  : Cal P w K mg base 4 "is_row_in" F_is_row_in :=
  cal_D (N := ["thing", "move"]) F sc_is_row_in fun f cdv A outer s H E hr => have nd := (sc_is_row_in).nd
    (z1 (zret (xand (xisi .tuple nofun (by decide +kernel) B.isinstance B.tuple_ rfl rfl (xv 0 rfl (Or.inl rfl))) (xone (xcallB (cl_all rfl) (by decide +kernel) B.all_ rfl (ac (xlc (.one 1) [("move", 1)] (by decide) rfl nd (iseq (xv 0 rfl (Or.inl rfl))) (blkOk_by (N := ["thing", "move"]) (sc := defScope (topS 24)) (by decide +kernel)) (fun _ _ _ _ _ => (g1 nd rfl (Or.inl rfl))) (fun _ _ _ _ _ => ts0) (fun _ _ _ _ _ => (xcall c_is_move hr (by decide) rfl (ac (xv 1 rfl (Or.inl rfl)) an)))) an))))))


/-! ### behind_in -/
def B_behind_in : Ev → Option Out := (sqE (frE (seqE (vE 1)) (.one 2) (asE 0 (aE F_moved_in (consA (vE 0) (consA (vE 2) nilA)))))
  (rtE (vE 0)))
def F_behind_in : List D → Option D := runF 2 3 B_behind_in
theorem sc_behind_in : FnScope ["stand", "row", "move"] ["stand", "row"] (defScope (topS 25)) := ⟨rfl, rfl, rfl, by decide +kernel, rfl, by decide +kernel, by decide +kernel⟩
theorem cal_behind_in (B : Bt mg) (F : Df K mg "behind_in" (topS 25) ["stand", "row"]) (c_moved_in : Cal P w K mg base 4 "moved_in" F_moved_in)  : Cal P w K mg base 5 "behind_in" F_behind_in :=
  cal_D (N := ["stand", "row", "move"]) F sc_behind_in fun f cdv A outer s H E hr => have nd := (sc_behind_in).nd
    (zc (zfor PassesOwn.never rfl (iseq (xv 1 rfl (Or.inl rfl))) (g1 nd rfl (Or.inl rfl)) (z1 (zset (i := 0) nd rfl (Or.inl rfl) (xcall c_moved_in hr (by decide) rfl (ac (xv 0 rfl (Or.inl rfl)) (ac (xv 2 rfl (Or.inl rfl)) an))))))
    (z1 (zret (xv 0 rfl (Or.inl rfl)))))


/-! ### both_stands -/
def B_both_stands : Ev → Option Out := (rtE (aE mkT (consA (aE F_sure_stand (consA (vE 0) nilA)) (consA (aE F_sure_stand (consA (vE 1) nilA)) nilA))))
def F_both_stands : List D → Option D := runF 2 2 B_both_stands
theorem sc_both_stands : FnScope ["stand", "goal"] ["stand", "goal"] (defScope (topS 29)) := ⟨rfl, rfl, rfl, by decide +kernel, rfl, by decide +kernel, by decide +kernel⟩
theorem cal_both_stands (B : Bt mg) (F : Df K mg "both_stands" (topS 29) ["stand", "goal"]) (c_sure_stand : Cal P w K mg base 8 "sure_stand" F_sure_stand)  : Cal P w K mg base 9 "both_stands" F_both_stands :=
  cal_D (N := ["stand", "goal"]) F sc_both_stands fun f cdv A outer s H E hr => have nd := (sc_both_stands).nd
    (z1 (zret (xtup (ac (xcall c_sure_stand hr (by decide) rfl (ac (xv 0 rfl (Or.inl rfl)) an)) (ac (xcall c_sure_stand hr (by decide) rfl (ac (xv 1 rfl (Or.inl rfl)) an)) an)))))


/-! ### twofold_at -/
def B_twofold_at : Ev → Option Out := (sqE (paE [3, 4] (consA (o2 dSub (o2 dIx (o2 dIx (vE 1) (cE (.int 1))) (vE 2)) (o2 dIx (o2 dIx (vE 0) (cE (.int 1))) (vE 2))) (consA (o2 dSub (o2 dIx (o2 dIx (vE 1) (cE (.int 2))) (vE 2)) (o2 dIx (o2 dIx (vE 0) (cE (.int 2))) (vE 2))) nilA)))
  (rtE (aE mkT (consA (o2 dAdd (vE 3) (vE 4)) (consA (o2 dSub (vE 3) (vE 4)) nilA)))))
def F_twofold_at : List D → Option D := runF 3 5 B_twofold_at
theorem sc_twofold_at : FnScope ["stand", "goal", "side", "east", "north"] ["stand", "goal", "side"] (defScope (topS 30)) := ⟨rfl, rfl, rfl, by decide +kernel, rfl, by decide +kernel, by decide +kernel⟩
theorem cal_twofold_at (B : Bt mg) (F : Df K mg "twofold_at" (topS 30) ["stand", "goal", "side"])   : Cal P w K mg base 1 "twofold_at" F_twofold_at :=
  cal_D (N := ["stand", "goal", "side", "east", "north"]) F sc_twofold_at fun f cdv A outer s H E hr => have nd := (sc_twofold_at).nd
    (zc (zpar2 (i := 3) (j := 4) rfl nd rfl rfl (by decide) rfl rfl (ac (xo2 op_dSub (xix (xix (xv 1 rfl (Or.inl rfl)) xc_int) (xv 2 rfl (Or.inl rfl))) (xix (xix (xv 0 rfl (Or.inl rfl)) xc_int) (xv 2 rfl (Or.inl rfl)))) (ac (xo2 op_dSub (xix (xix (xv 1 rfl (Or.inl rfl)) xc_int) (xv 2 rfl (Or.inl rfl))) (xix (xix (xv 0 rfl (Or.inl rfl)) xc_int) (xv 2 rfl (Or.inl rfl)))) an)) rfl)
    (z1 (zret (xtup (ac (xo2 op_dAdd (xv 3 rfl (Or.inl rfl)) (xv 4 rfl (Or.inl rfl))) (ac (xo2 op_dSub (xv 3 rfl (Or.inl rfl)) (xv 4 rfl (Or.inl rfl))) an))))))


/-! ### has_slants -/
def B_has_slants : Ev → Option Out := (sqE (atE (.tup [2, 3, 4]) (o2 dIx (vE 0) (cE (.int 0))))
  (sqE (isE (toB (o2 dNe (o2 dIx (o2 dIx (vE 1) (cE (.int 0))) (cE (.int 2))) (vE 4))) (rtE (cE (.str "shape"))) ndE)
  (sqE (isE (toB (o2 dNe (aE F_twofold_at (consA (vE 0) (consA (vE 1) (consA (vE 4) nilA)))) (aE mkT (consA (cE (.int 0)) (consA (cE (.int 0)) nilA))))) (rtE (cE (.str "upright"))) ndE)
  (sqE (isE (orB (toB (o2 dEq (o2 dMod (o2 dIx (aE F_twofold_at (consA (vE 0) (consA (vE 1) (consA (vE 2) nilA)))) (cE (.int 0))) (cE (.int 2))) (cE (.int 1)))) (toB (o2 dEq (o2 dMod (o2 dIx (aE F_twofold_at (consA (vE 0) (consA (vE 1) (consA (vE 3) nilA)))) (cE (.int 0))) (cE (.int 2))) (cE (.int 1))))) (rtE (cE (.str "half"))) ndE)
  (rtE (cE (.str "")))))))
def F_has_slants : List D → Option D := runF 2 5 B_has_slants
theorem sc_has_slants : FnScope ["stand", "goal", "i", "j", "k"] ["stand", "goal"] (defScope (topS 31)) := ⟨rfl, rfl, rfl, by decide +kernel, rfl, by decide +kernel, by decide +kernel⟩
theorem cal_has_slants (B : Bt mg) (F : Df K mg "has_slants" (topS 31) ["stand", "goal"]) (c_twofold_at : Cal P w K mg base 1 "twofold_at" F_twofold_at)  : Cal P w K mg base 2 "has_slants" F_has_slants :=
  cal_D (N := ["stand", "goal", "i", "j", "k"]) F sc_has_slants fun f cdv A outer s H E hr => have nd := (sc_has_slants).nd
    (zc (zasg (xix (xv 0 rfl (Or.inl rfl)) xc_int) (gt rfl (gn1 (pg_name nd rfl (Or.inl rfl)) (gn1 (pg_name nd rfl (Or.inl rfl)) (gn1 (pg_name nd rfl (Or.inl rfl)) gn0)))))
    (zc (zif (tcmp (op_dNe hr.units) (xix (xix (xv 1 rfl (Or.inl rfl)) xc_int) xc_int) (xv 4 rfl (Or.inl rfl)) (nomark _)) (z1 (zret xc_str)) zn)
    (zc (zif (tcmp (op_dNe hr.units) (xcall c_twofold_at hr (by decide) rfl (ac (xv 0 rfl (Or.inl rfl)) (ac (xv 1 rfl (Or.inl rfl)) (ac (xv 4 rfl (Or.inl rfl)) an)))) (xtup (ac xc_int (ac xc_int an))) (nomark _)) (z1 (zret xc_str)) zn)
    (zc (zif (PW.pt (tor (tcmp (op_dEq hr.units) (xo2 op_dMod (xix (xcall c_twofold_at hr (by decide) rfl (ac (xv 0 rfl (Or.inl rfl)) (ac (xv 1 rfl (Or.inl rfl)) (ac (xv 2 rfl (Or.inl rfl)) an)))) xc_int) xc_int) xc_int (nomark _)) (tor1 (tcmp (op_dEq hr.units) (xo2 op_dMod (xix (xcall c_twofold_at hr (by decide) rfl (ac (xv 0 rfl (Or.inl rfl)) (ac (xv 1 rfl (Or.inl rfl)) (ac (xv 3 rfl (Or.inl rfl)) an)))) xc_int) xc_int) xc_int (nomark _))))) (z1 (zret xc_str)) zn)
    (z1 (zret xc_str))))))


/-! ### slants_in -/
def B_slants_in : Ev → Option Out := (sqE (paE [2, 3] (consA (aE F_twofold_at (consA (vE 0) (consA (vE 1) (consA (o2 dIx (o2 dIx (vE 0) (cE (.int 0))) (cE (.int 0))) nilA)))) (consA (aE F_twofold_at (consA (vE 0) (consA (vE 1) (consA (o2 dIx (o2 dIx (vE 0) (cE (.int 0))) (cE (.int 1))) nilA)))) nilA)))
  (rtE (aE mkT (consA (o2 dDiv (o2 dIx (vE 2) (cE (.int 0))) (cE (.int 2))) (consA (o2 dDiv (o2 dIx (vE 3) (cE (.int 1))) (cE (.int 2))) (consA (o2 dDiv (o2 dIx (vE 3) (cE (.int 0))) (cE (.int 2))) (consA (o2 dDiv (o2 dIx (vE 2) (cE (.int 1))) (cE (.int 2))) nilA)))))))
def F_slants_in : List D → Option D := runF 2 4 B_slants_in
theorem sc_slants_in : FnScope ["stand", "goal", "one", "other"] ["stand", "goal"] (defScope (topS 32)) := ⟨rfl, rfl, rfl, by decide +kernel, rfl, by decide +kernel, by decide +kernel⟩
theorem cal_slants_in (B : Bt mg) (F : Df K mg "slants_in" (topS 32) ["stand", "goal"]) (c_twofold_at : Cal P w K mg base 1 "twofold_at" F_twofold_at)  : Cal P w K mg base 2 "slants_in" F_slants_in :=
  cal_D (N := ["stand", "goal", "one", "other"]) F sc_slants_in fun f cdv A outer s H E hr => have nd := (sc_slants_in).nd
    (zc (zpar2 (i := 2) (j := 3) rfl nd rfl rfl (by decide) rfl rfl (ac (xcall c_twofold_at hr (by decide) rfl (ac (xv 0 rfl (Or.inl rfl)) (ac (xv 1 rfl (Or.inl rfl)) (ac (xix (xix (xv 0 rfl (Or.inl rfl)) xc_int) xc_int) an)))) (ac (xcall c_twofold_at hr (by decide) rfl (ac (xv 0 rfl (Or.inl rfl)) (ac (xv 1 rfl (Or.inl rfl)) (ac (xix (xix (xv 0 rfl (Or.inl rfl)) xc_int) xc_int) an)))) an)) rfl)
    (z1 (zret (xtup (ac (xo2 op_dDiv (xix (xv 2 rfl (Or.inl rfl)) xc_int) xc_int) (ac (xo2 op_dDiv (xix (xv 3 rfl (Or.inl rfl)) xc_int) xc_int) (ac (xo2 op_dDiv (xix (xv 3 rfl (Or.inl rfl)) xc_int) xc_int) (ac (xo2 op_dDiv (xix (xv 2 rfl (Or.inl rfl)) xc_int) xc_int) an))))))))


/-! ### are_paired -/
def B_are_paired : Ev → Option Out := (rtE (andV (o2 dEq (o2 dMod (o2 dSub (o2 dIx (vE 0) (cE (.int 0))) (o2 dIx (vE 0) (cE (.int 1)))) (cE (.int 2))) (cE (.int 0))) (o2 dEq (o2 dMod (o2 dSub (o2 dIx (vE 0) (cE (.int 2))) (o2 dIx (vE 0) (cE (.int 3)))) (cE (.int 2))) (cE (.int 0)))))
def F_are_paired : List D → Option D := runF 1 1 B_are_paired
theorem sc_are_paired : FnScope ["slants"] ["slants"] (defScope (topS 33)) := ⟨rfl, rfl, rfl, by decide +kernel, rfl, by decide +kernel, by decide +kernel⟩
theorem cal_are_paired (B : Bt mg) (F : Df K mg "are_paired" (topS 33) ["slants"])   : Cal P w K mg base 1 "are_paired" F_are_paired :=
  cal_D (N := ["slants"]) F sc_are_paired fun f cdv A outer s H E hr => have nd := (sc_are_paired).nd
    (z1 (zret (xand (xcmp (op_dEq hr.units) (xo2 op_dMod (xo2 op_dSub (xix (xv 0 rfl (Or.inl rfl)) xc_int) (xix (xv 0 rfl (Or.inl rfl)) xc_int)) xc_int) xc_int (nomark _)) (xone (xcmp (op_dEq hr.units) (xo2 op_dMod (xo2 op_dSub (xix (xv 0 rfl (Or.inl rfl)) xc_int) (xix (xv 0 rfl (Or.inl rfl)) xc_int)) xc_int) xc_int (nomark _))))))

end
end Mv

/-! part G3 -/
set_option maxHeartbeats 4000000
namespace Mv
open PySem PySem.Spec L2
section
variable {P : Program} {w : World} {K : PySem.W.Frag} {mg : Str → Option Value} {base : Heap}

/-! ### stand_slanted -/
def B_stand_slanted : Fo := (osqE (otE (.tup [3, 4, 5]) (o2 dIx (vE 0) (cE (.int 0))))
  (osqE (o3E 6 7 8 (seqE (o2 dIx (vE 0) (cE (.int 1)))) (seqE (o2 dIx (vE 0) (cE (.int 2)))) (seqE (o2 dIx (vE 0) (cE (.int 3)))))
  (osqE (ofrE (seqE (aE mkT (consA (aE mkT (consA (vE 3) (consA (o2 dIx (vE 1) (cE (.int 0))) (consA (o2 dIx (vE 1) (cE (.int 3))) nilA)))) (consA (aE mkT (consA (vE 4) (consA (o2 dIx (vE 1) (cE (.int 2))) (consA (o2 dIx (vE 1) (cE (.int 1))) nilA)))) nilA)))) (.tup [9, 10, 11]) (osqE (osetE 6 (vE 9) (o2 dAdd (o2 dAdd (o2 dIx (vE 6) (vE 9)) (vE 10)) (vE 11)))
  (osqE (osetE 7 (vE 9) (o2 dSub (o2 dAdd (o2 dIx (vE 7) (vE 9)) (vE 10)) (vE 11)))
  (oifE (toB (o2 dEq (o2 dMod (vE 10) (cE (.int 2))) (cE (.int 1)))) (osetE 8 (vE 9) (o2 dSub (cE (.int 0)) (o2 dIx (vE 8) (vE 9)))) ondE))))
  (osqE (opE 2 (ifE (toB (o2 dEq (o2 dMod (o2 dAdd (o2 dIx (vE 1) (cE (.int 0))) (o2 dIx (vE 1) (cE (.int 2)))) (cE (.int 2))) (cE (.int 0)))) (aE mkT (consA (vE 3) (consA (vE 4) (consA (vE 5) nilA)))) (aE mkT (consA (vE 4) (consA (vE 3) (consA (vE 5) nilA))))))
  (ortE (aE mkT (consA (vE 2) (consA (aE tupleD (consA (vE 6) nilA)) (consA (aE tupleD (consA (vE 7) nilA)) (consA (aE tupleD (consA (vE 8) nilA)) nilA))))))))))
def F_stand_slanted : List D → Option D := runO 2 12 B_stand_slanted
theorem sc_stand_slanted : FnScope ["stand", "slants", "shape", "i", "j", "k", "eastward", "northward", "fronts", "side", "plus", "minus"] ["stand", "slants"] (defScope (topS 34)) := ⟨rfl, rfl, rfl, by decide +kernel, rfl, by decide +kernel, by decide +kernel⟩
theorem cal_stand_slanted (B : Bt mg) (F : Df K mg "stand_slanted" (topS 34) ["stand", "slants"])   : Cal P w K mg base 1 "stand_slanted" F_stand_slanted :=
  cal_O (N := ["stand", "slants", "shape", "i", "j", "k", "eastward", "northward", "fronts", "side", "plus", "minus"]) F sc_stand_slanted fun f cdv A outer s H E hr => have nd := (sc_stand_slanted).nd
    (oc (ot (xix (xv 0 rfl (Or.inl rfl)) xc_int) (gt rfl (gn1 (pg_name nd rfl (Or.inl rfl)) (gn1 (pg_name nd rfl (Or.inl rfl)) (gn1 (pg_name nd rfl (Or.inl rfl)) gn0)))))
    (oc (onew3 (i := 6) (j := 7) (l := 8) rfl nd rfl rfl rfl (by decide) (by decide) (by decide) rfl rfl rfl (nlist B.list_ rfl (xix (xv 0 rfl (Or.inl rfl)) xc_int)) (nlist B.list_ rfl (xix (xv 0 rfl (Or.inl rfl)) xc_int)) (nlist B.list_ rfl (xix (xv 0 rfl (Or.inl rfl)) xc_int)) rfl)
    (oc (ofor PassesOwn.never rfl (iseq (xtup (ac (xtup (ac (xv 3 rfl (Or.inl rfl)) (ac (xix (xv 1 rfl (Or.inl rfl)) xc_int) (ac (xix (xv 1 rfl (Or.inl rfl)) xc_int) an)))) (ac (xtup (ac (xv 4 rfl (Or.inl rfl)) (ac (xix (xv 1 rfl (Or.inl rfl)) xc_int) (ac (xix (xv 1 rfl (Or.inl rfl)) xc_int) an)))) an)))) (gt rfl (gn1 (pg_name nd rfl (Or.inl rfl)) (gn1 (pg_name nd rfl (Or.inl rfl)) (gn1 (pg_name nd rfl (Or.inl rfl)) gn0)))) (oc (oset (i := 6) (pv 6) (xv 9 rfl (Or.inl rfl)) (xo2 op_dAdd (xo2 op_dAdd (xix (xv 6 rfl (Or.inl rfl)) (xv 9 rfl (Or.inl rfl))) (xv 10 rfl (Or.inl rfl))) (xv 11 rfl (Or.inl rfl))))
    (oc (oset (i := 7) (pv 7) (xv 9 rfl (Or.inl rfl)) (xo2 op_dSub (xo2 op_dAdd (xix (xv 7 rfl (Or.inl rfl)) (xv 9 rfl (Or.inl rfl))) (xv 10 rfl (Or.inl rfl))) (xv 11 rfl (Or.inl rfl))))
    (oz1 (oif (tcmp (op_dEq hr.units) (xo2 op_dMod (xv 10 rfl (Or.inl rfl)) xc_int) xc_int (nomark _)) (oz1 (oset (i := 8) (pv 8) (xv 9 rfl (Or.inl rfl)) (xo2 op_dSub xc_int (xix (xv 8 rfl (Or.inl rfl)) (xv 9 rfl (Or.inl rfl)))))) on)))))
    (oc (op (i := 2) nd rfl (Or.inl rfl) (xif (tcmp (op_dEq hr.units) (xo2 op_dMod (xo2 op_dAdd (xix (xv 1 rfl (Or.inl rfl)) xc_int) (xix (xv 1 rfl (Or.inl rfl)) xc_int)) xc_int) xc_int (nomark _)) (xtup (ac (xv 3 rfl (Or.inl rfl)) (ac (xv 4 rfl (Or.inl rfl)) (ac (xv 5 rfl (Or.inl rfl)) an)))) (xtup (ac (xv 4 rfl (Or.inl rfl)) (ac (xv 3 rfl (Or.inl rfl)) (ac (xv 5 rfl (Or.inl rfl)) an))))))
    (oz1 (oret (xtup (ac (xv 2 rfl (Or.inl rfl)) (ac (xcallTy cl_tuple (by decide +kernel) B.tuple_ rfl (ac (xv 6 rfl (Or.inl rfl)) an)) (ac (xcallTy cl_tuple (by decide +kernel) B.tuple_ rfl (ac (xv 7 rfl (Or.inl rfl)) an)) (ac (xcallTy cl_tuple (by decide +kernel) B.tuple_ rfl (ac (xv 8 rfl (Or.inl rfl)) an)) an)))))))))))


/-! ### bar_in -/
def B_bar_in : Ev → Option Out := (sqE (asE 2 (aE F_has_slants (consA (vE 0) (consA (vE 1) nilA))))
  (sqE (isE (toB (o2 dNe (vE 2) (cE (.str "")))) (rtE (vE 2)) ndE)
  (sqE (asE 3 (aE F_slants_in (consA (vE 0) (consA (vE 1) nilA))))
  (sqE (isE (notB (toB (aE F_are_paired (consA (vE 3) nilA)))) (rtE (cE (.str "odd"))) ndE)
  (sqE (asE 4 (aE F_stand_slanted (consA (vE 0) (consA (vE 3) nilA))))
  (sqE (isE (toB (o2 dNe (o2 dIx (vE 4) (cE (.int 0))) (o2 dIx (vE 1) (cE (.int 0))))) (rtE (cE (.str "way"))) ndE)
  (rtE (ifE (toB (o2 dEq (o2 dIx (vE 4) (cE (.int 3))) (o2 dIx (vE 1) (cE (.int 3))))) (cE (.str "")) (cE (.str "fronts"))))))))))
def F_bar_in : List D → Option D := runF 2 5 B_bar_in
theorem sc_bar_in : FnScope ["stand", "goal", "found", "slants", "told"] ["stand", "goal"] (defScope (topS 35)) := ⟨rfl, rfl, rfl, by decide +kernel, rfl, by decide +kernel, by decide +kernel⟩
theorem cal_bar_in (B : Bt mg) (F : Df K mg "bar_in" (topS 35) ["stand", "goal"]) (c_has_slants : Cal P w K mg base 2 "has_slants" F_has_slants) (c_slants_in : Cal P w K mg base 2 "slants_in" F_slants_in) (c_are_paired : Cal P w K mg base 1 "are_paired" F_are_paired) (c_stand_slanted : Cal P w K mg base 1 "stand_slanted" F_stand_slanted)  : Cal P w K mg base 3 "bar_in" F_bar_in :=
  cal_D (N := ["stand", "goal", "found", "slants", "told"]) F sc_bar_in fun f cdv A outer s H E hr => have nd := (sc_bar_in).nd
    (zc (zset (i := 2) nd rfl (Or.inl rfl) (xcall c_has_slants hr (by decide) rfl (ac (xv 0 rfl (Or.inl rfl)) (ac (xv 1 rfl (Or.inl rfl)) an))))
    (zc (zif (tcmp (op_dNe hr.units) (xv 2 rfl (Or.inl rfl)) xc_str (nomark _)) (z1 (zret (xv 2 rfl (Or.inl rfl)))) zn)
    (zc (zset (i := 3) nd rfl (Or.inl rfl) (xcall c_slants_in hr (by decide) rfl (ac (xv 0 rfl (Or.inl rfl)) (ac (xv 1 rfl (Or.inl rfl)) an))))
    (zc (zif (tnot (tval (xcall c_are_paired hr (by decide) rfl (ac (xv 3 rfl (Or.inl rfl)) an)))) (z1 (zret xc_str)) zn)
    (zc (zset (i := 4) nd rfl (Or.inl rfl) (xcall c_stand_slanted hr (by decide) rfl (ac (xv 0 rfl (Or.inl rfl)) (ac (xv 3 rfl (Or.inl rfl)) an))))
    (zc (zif (tcmp (op_dNe hr.units) (xix (xv 4 rfl (Or.inl rfl)) xc_int) (xix (xv 1 rfl (Or.inl rfl)) xc_int) (nomark _)) (z1 (zret xc_str)) zn)
    (z1 (zret (xif (tcmp (op_dEq hr.units) (xix (xv 4 rfl (Or.inl rfl)) xc_int) (xix (xv 1 rfl (Or.inl rfl)) xc_int) (nomark _)) xc_str xc_str)))))))))


/-! ### can_turn_to -/
def B_can_turn_to : Ev → Option Out := (sqE (atE (.tup [2, 3]) (aE F_both_stands (consA (vE 0) (consA (vE 1) nilA))))
  (rtE (o2 dEq (aE F_bar_in (consA (vE 2) (consA (vE 3) nilA))) (cE (.str "")))))
def F_can_turn_to : List D → Option D := runF 2 4 B_can_turn_to
theorem sc_can_turn_to : FnScope ["stand", "goal", "own", "far"] ["stand", "goal"] (defScope (topS 36)) := ⟨rfl, rfl, rfl, by decide +kernel, rfl, by decide +kernel, by decide +kernel⟩
theorem cal_can_turn_to (B : Bt mg) (F : Df K mg "can_turn_to" (topS 36) ["stand", "goal"]) (c_both_stands : Cal P w K mg base 9 "both_stands" F_both_stands) (c_bar_in : Cal P w K mg base 3 "bar_in" F_bar_in)  : Cal P w K mg base 10 "can_turn_to" F_can_turn_to :=
  cal_D (N := ["stand", "goal", "own", "far"]) F sc_can_turn_to fun f cdv A outer s H E hr => have nd := (sc_can_turn_to).nd
    (zc (zasg (xcall c_both_stands hr (by decide) rfl (ac (xv 0 rfl (Or.inl rfl)) (ac (xv 1 rfl (Or.inl rfl)) an))) (gt rfl (gn1 (pg_name nd rfl (Or.inl rfl)) (gn1 (pg_name nd rfl (Or.inl rfl)) gn0))))
    (z1 (zret (xcmp (op_dEq hr.units) (xcall c_bar_in hr (by decide) rfl (ac (xv 2 rfl (Or.inl rfl)) (ac (xv 3 rfl (Or.inl rfl)) an))) xc_str (nomark _)))))


/-! ### east_north -/
def B_east_north : Ev → Option Out := (rtE (aE mkT (consA (ifE (toB (o2 dIn (vE 0) (aE mkT (consA (cE (.int 1)) (consA (cE (.int 2)) nilA))))) (cE (.int 1)) (o1 dNeg (cE (.int 1)))) (consA (ifE (toB (o2 dIn (vE 0) (aE mkT (consA (cE (.int 2)) (consA (cE (.int 3)) nilA))))) (cE (.int 1)) (o1 dNeg (cE (.int 1)))) nilA))))
def F_east_north : List D → Option D := runF 1 1 B_east_north
theorem sc_east_north : FnScope ["corner"] ["corner"] (defScope (topS 38)) := ⟨rfl, rfl, rfl, by decide +kernel, rfl, by decide +kernel, by decide +kernel⟩
theorem cal_east_north (B : Bt mg) (F : Df K mg "east_north" (topS 38) ["corner"])   : Cal P w K mg base 1 "east_north" F_east_north :=
  cal_D (N := ["corner"]) F sc_east_north fun f cdv A outer s H E hr => have nd := (sc_east_north).nd
    (z1 (zret (xtup (ac (xif (tcmp (op_dIn (u65 hr)) (xv 0 rfl (Or.inl rfl)) (xtup (ac xc_int (ac xc_int an))) rfl) xc_int (xo1 un_dNeg xc_int)) (ac (xif (tcmp (op_dIn (u65 hr)) (xv 0 rfl (Or.inl rfl)) (xtup (ac xc_int (ac xc_int an))) rfl) xc_int (xo1 un_dNeg xc_int)) an)))))


/-! ### corner_at -/
def B_corner_at : Ev → Option Out := (rtE (o2 dIx (compE (rngE (cE (.int 4))) (.one 2) ([2]) (toB (o2 dEq (aE F_east_north (consA (vE 2) nilA)) (aE mkT (consA (vE 0) (consA (vE 1) nilA))))) (vE 2)) (cE (.int 0))))
def F_corner_at : List D → Option D := runF 2 3 B_corner_at
theorem sc_corner_at : FnScope ["east", "north", "corner"] ["east", "north"] (defScope (topS 39)) := ⟨rfl, rfl, rfl, by decide +kernel, rfl, by decide +kernel, by decide +kernel⟩
theorem cal_corner_at (B : Bt mg) (F : Df K mg "corner_at" (topS 39) ["east", "north"]) (c_east_north : Cal P w K mg base 1 "east_north" F_east_north)  : Cal P w K mg base 2 "corner_at" F_corner_at :=
  cal_D (N := ["east", "north", "corner"]) F sc_corner_at fun f cdv A outer s H E hr => have nd := (sc_corner_at).nd
    (z1 (zret (xix (xlc (.one 2) [("corner", 2)] (by decide) rfl nd (irange B.range_ rfl xc_int) (blkOk_by (N := ["east", "north", "corner"]) (sc := defScope (topS 39)) (by decide +kernel)) (fun _ _ _ _ _ => (g1 nd rfl (Or.inl rfl))) (fun _ _ _ _ _ => (ts1 (tcmp (op_dEq hr.units) (xcall c_east_north hr (by decide) rfl (ac (xv 2 rfl (Or.inl rfl)) an)) (xtup (ac (xv 0 rfl (Or.inr (Or.inl rfl))) (ac (xv 1 rfl (Or.inr (Or.inl rfl))) an))) (nomark _)))) (fun _ _ _ _ _ => (xv 2 rfl (Or.inl rfl)))) xc_int)))


/-! ### turn_by -/
def B_turn_by : Ev → Option Out := (sqE (isE (toB (o2 dEq (vE 0) (cE (.int 0)))) (rtE (aE mkT (consA (cE (.str "turn")) (consA (aE F_corner_at (consA (vE 1) (consA (o2 dSub (cE (.int 0)) (vE 2)) nilA))) (consA (o1 dNeg (cE (.int 1))) nilA))))) ndE)
  (rtE (aE mkT (consA (cE (.str "turn")) (consA (aE F_corner_at (consA (vE 2) (consA (vE 1) nilA))) (consA (cE (.int 1)) nilA))))))
def F_turn_by : List D → Option D := runF 3 3 B_turn_by
theorem sc_turn_by : FnScope ["number", "one", "other"] ["number", "one", "other"] (defScope (topS 40)) := ⟨rfl, rfl, rfl, by decide +kernel, rfl, by decide +kernel, by decide +kernel⟩
theorem cal_turn_by (B : Bt mg) (F : Df K mg "turn_by" (topS 40) ["number", "one", "other"]) (c_corner_at : Cal P w K mg base 2 "corner_at" F_corner_at)  : Cal P w K mg base 3 "turn_by" F_turn_by :=
  cal_D (N := ["number", "one", "other"]) F sc_turn_by fun f cdv A outer s H E hr => have nd := (sc_turn_by).nd
    (zc (zif (tcmp (op_dEq hr.units) (xv 0 rfl (Or.inl rfl)) xc_int (nomark _)) (z1 (zret (xtup (ac xc_str (ac (xcall c_corner_at hr (by decide) rfl (ac (xv 1 rfl (Or.inl rfl)) (ac (xo2 op_dSub xc_int (xv 2 rfl (Or.inl rfl))) an))) (ac (xo1 un_dNeg xc_int) an)))))) zn)
    (z1 (zret (xtup (ac xc_str (ac (xcall c_corner_at hr (by decide) rfl (ac (xv 2 rfl (Or.inl rfl)) (ac (xv 1 rfl (Or.inl rfl)) an))) (ac xc_int an)))))))


/-! ### turns_by_slants -/
def B_turns_by_slants : Ev → Option Out := (rtE (o2 dAdd (aE maxD (consA (aE absD (consA (o2 dIx (vE 0) (cE (.int 0))) nilA)) (consA (aE absD (consA (o2 dIx (vE 0) (cE (.int 1))) nilA)) nilA))) (aE maxD (consA (aE absD (consA (o2 dIx (vE 0) (cE (.int 2))) nilA)) (consA (aE absD (consA (o2 dIx (vE 0) (cE (.int 3))) nilA)) nilA)))))
def F_turns_by_slants : List D → Option D := runF 1 1 B_turns_by_slants
theorem sc_turns_by_slants : FnScope ["slants"] ["slants"] (defScope (topS 41)) := ⟨rfl, rfl, rfl, by decide +kernel, rfl, by decide +kernel, by decide +kernel⟩
theorem cal_turns_by_slants (B : Bt mg) (F : Df K mg "turns_by_slants" (topS 41) ["slants"])   : Cal P w K mg base 1 "turns_by_slants" F_turns_by_slants :=
  cal_D (N := ["slants"]) F sc_turns_by_slants fun f cdv A outer s H E hr => have nd := (sc_turns_by_slants).nd
    (z1 (zret (xo2 op_dAdd (xcallB (cl_max rfl) (by decide +kernel) B.max_ rfl (ac (xcallB cl_abs (by decide +kernel) B.abs_ rfl (ac (xix (xv 0 rfl (Or.inl rfl)) xc_int) an)) (ac (xcallB cl_abs (by decide +kernel) B.abs_ rfl (ac (xix (xv 0 rfl (Or.inl rfl)) xc_int) an)) an))) (xcallB (cl_max rfl) (by decide +kernel) B.max_ rfl (ac (xcallB cl_abs (by decide +kernel) B.abs_ rfl (ac (xix (xv 0 rfl (Or.inl rfl)) xc_int) an)) (ac (xcallB cl_abs (by decide +kernel) B.abs_ rfl (ac (xix (xv 0 rfl (Or.inl rfl)) xc_int) an)) an))))))


/-! ### fewest_turned_in -/
def B_fewest_turned_in : Ev → Option Out := (rtE (aE F_turns_by_slants (consA (aE F_slants_in (consA (vE 0) (consA (vE 1) nilA))) nilA)))
def F_fewest_turned_in : List D → Option D := runF 2 2 B_fewest_turned_in
theorem sc_fewest_turned_in : FnScope ["stand", "goal"] ["stand", "goal"] (defScope (topS 43)) := ⟨rfl, rfl, rfl, by decide +kernel, rfl, by decide +kernel, by decide +kernel⟩
theorem cal_fewest_turned_in (B : Bt mg) (F : Df K mg "fewest_turned_in" (topS 43) ["stand", "goal"]) (c_slants_in : Cal P w K mg base 2 "slants_in" F_slants_in) (c_turns_by_slants : Cal P w K mg base 1 "turns_by_slants" F_turns_by_slants)  : Cal P w K mg base 3 "fewest_turned_in" F_fewest_turned_in :=
  cal_D (N := ["stand", "goal"]) F sc_fewest_turned_in fun f cdv A outer s H E hr => have nd := (sc_fewest_turned_in).nd
    (z1 (zret (xcall c_turns_by_slants hr (by decide) rfl (ac (xcall c_slants_in hr (by decide) rfl (ac (xv 0 rfl (Or.inl rfl)) (ac (xv 1 rfl (Or.inl rfl)) an))) an))))


/-! ### ones_for -/
def B_ones_for : Ev → Option Out := (sqE (asE 2 (o2 dDiv (o2 dAdd (vE 1) (vE 0)) (cE (.int 2))))
  (rtE (o2 dAdd (o2 dMul (aE mkL (consA (cE (.int 1)) nilA)) (vE 2)) (o2 dMul (aE mkL (consA (o1 dNeg (cE (.int 1))) nilA)) (o2 dSub (vE 1) (vE 2))))))
def F_ones_for : List D → Option D := runF 2 3 B_ones_for
theorem sc_ones_for : FnScope ["number", "many", "plus"] ["number", "many"] (defScope (topS 47)) := ⟨rfl, rfl, rfl, by decide +kernel, rfl, by decide +kernel, by decide +kernel⟩
theorem cal_ones_for (B : Bt mg) (F : Df K mg "ones_for" (topS 47) ["number", "many"])   : Cal P w K mg base 1 "ones_for" F_ones_for :=
  cal_D (N := ["number", "many", "plus"]) F sc_ones_for fun f cdv A outer s H E hr => have nd := (sc_ones_for).nd
    (zc (zset (i := 2) nd rfl (Or.inl rfl) (xo2 op_dDiv (xo2 op_dAdd (xv 1 rfl (Or.inl rfl)) (xv 0 rfl (Or.inl rfl))) xc_int))
    (z1 (zret (xo2 op_dAdd (xo2 op_dMul (xlst (ac xc_int an)) (xv 2 rfl (Or.inl rfl))) (xo2 op_dMul (xlst (ac (xo1 un_dNeg xc_int) an)) (xo2 op_dSub (xv 1 rfl (Or.inl rfl)) (xv 2 rfl (Or.inl rfl))))))))


/-! ### turns_told -/
def B_turns_told : Fo := (osqE (onewE 1 (fun _ => some []))
  (osqE (ofrE (seqE (aE mkT (consA (aE mkT (consA (cE (.int 0)) (consA (o2 dIx (vE 0) (cE (.int 0))) (consA (o2 dIx (vE 0) (cE (.int 1))) nilA)))) (consA (aE mkT (consA (cE (.int 1)) (consA (o2 dIx (vE 0) (cE (.int 2))) (consA (o2 dIx (vE 0) (cE (.int 3))) nilA)))) nilA)))) (.tup [2, 3, 4]) (osqE (opE 5 (aE maxD (consA (aE absD (consA (vE 3) nilA)) (consA (aE absD (consA (vE 4) nilA)) nilA))))
  (osqE (oparE [7, 8] (consA (aE F_ones_for (consA (vE 3) (consA (vE 5) nilA))) (consA (aE F_ones_for (consA (vE 4) (consA (vE 5) nilA))) nilA)))
  (ofrE (rngE (vE 5)) (.one 6) (osqE (omE 9 (ifE (toB (o2 dEq (o2 dMod (aE lenD (consA (vE 1) nilA)) (cE (.int 2))) (cE (.int 0)))) (vE 2) (o2 dSub (cE (.int 1)) (vE 2))))
  (oappE 1 (aE F_turn_by (consA (vE 9) (consA (o2 dIx (vE 7) (vE 6)) (consA (o2 dIx (vE 8) (vE 6)) nilA))))))))))
  (ortE (aE tupleD (consA (vE 1) nilA)))))
def F_turns_told : List D → Option D := runO 1 10 B_turns_told
theorem sc_turns_told : FnScope ["slants", "found", "number", "one", "other", "many", "place", "ones", "others", "own"] ["slants"] (defScope (topS 48)) := ⟨rfl, rfl, rfl, by decide +kernel, rfl, by decide +kernel, by decide +kernel⟩
theorem cal_turns_told (B : Bt mg) (F : Df K mg "turns_told" (topS 48) ["slants"]) (c_ones_for : Cal P w K mg base 1 "ones_for" F_ones_for) (c_turn_by : Cal P w K mg base 3 "turn_by" F_turn_by)  : Cal P w K mg base 4 "turns_told" F_turns_told :=
  cal_O (N := ["slants", "found", "number", "one", "other", "many", "place", "ones", "others", "own"]) F sc_turns_told fun f cdv A outer s H E hr => have nd := (sc_turns_told).nd
    (oc (onew (i := 1) nd rfl (Or.inl rfl) nl0)
    (oc (ofor PassesOwn.never rfl (iseq (xtup (ac (xtup (ac xc_int (ac (xix (xv 0 rfl (Or.inl rfl)) xc_int) (ac (xix (xv 0 rfl (Or.inl rfl)) xc_int) an)))) (ac (xtup (ac xc_int (ac (xix (xv 0 rfl (Or.inl rfl)) xc_int) (ac (xix (xv 0 rfl (Or.inl rfl)) xc_int) an)))) an)))) (gt rfl (gn1 (pg_name nd rfl (Or.inl rfl)) (gn1 (pg_name nd rfl (Or.inl rfl)) (gn1 (pg_name nd rfl (Or.inl rfl)) gn0)))) (oc (op (i := 5) nd rfl (Or.inl rfl) (xcallB (cl_max rfl) (by decide +kernel) B.max_ rfl (ac (xcallB cl_abs (by decide +kernel) B.abs_ rfl (ac (xv 3 rfl (Or.inl rfl)) an)) (ac (xcallB cl_abs (by decide +kernel) B.abs_ rfl (ac (xv 4 rfl (Or.inl rfl)) an)) an))))
    (oc (opar2 (i := 7) (j := 8) rfl nd rfl rfl (by decide) rfl rfl (ac (xcall c_ones_for hr (by decide) rfl (ac (xv 3 rfl (Or.inl rfl)) (ac (xv 5 rfl (Or.inl rfl)) an))) (ac (xcall c_ones_for hr (by decide) rfl (ac (xv 4 rfl (Or.inl rfl)) (ac (xv 5 rfl (Or.inl rfl)) an))) an)) rfl)
    (oz1 (ofor PassesOwn.never rfl (irange B.range_ rfl (xv 5 rfl (Or.inl rfl))) (g1 nd rfl (Or.inl rfl)) (oc (om (i := 9) nd rfl (Or.inl rfl) (xif (tcmp (op_dEq hr.units) (xo2 op_dMod (xcallB cl_len (by decide +kernel) B.len_ rfl (ac (xv 1 rfl (Or.inl rfl)) an)) xc_int) xc_int (nomark _)) (xv 2 rfl (Or.inl rfl)) (xo2 op_dSub xc_int (xv 2 rfl (Or.inl rfl)))))
    (oz1 (oapp (i := 1) rfl (Or.inl rfl) (xcall c_turn_by hr (by decide) rfl (ac (xv 9 rfl (Or.inl rfl)) (ac (xix (xv 7 rfl (Or.inl rfl)) (xv 6 rfl (Or.inl rfl))) (ac (xix (xv 8 rfl (Or.inl rfl)) (xv 6 rfl (Or.inl rfl))) an)))) (hb := pe_bm PySem.F.plainAttrs_list PySem.F.slot_list_append PySem.F.type_list_append mt_append (pv 1) (pa_cons (xcall c_turn_by hr (by decide) rfl (ac (xv 9 rfl (Or.inl rfl)) (ac (xix (xv 7 rfl (Or.inl rfl)) (xv 6 rfl (Or.inl rfl))) (ac (xix (xv 8 rfl (Or.inl rfl)) (xv 6 rfl (Or.inl rfl))) an)))) pa_nil))))))))))
    (oz1 (oret (xcallTy cl_tuple (by decide +kernel) B.tuple_ rfl (ac (xv 1 rfl (Or.inl rfl)) an))))))


/-! ### turn_plan_in -/
def B_turn_plan_in : Ev → Option Out := (rtE (aE F_turns_told (consA (aE F_slants_in (consA (vE 0) (consA (vE 1) nilA))) nilA)))
def F_turn_plan_in : List D → Option D := runF 2 2 B_turn_plan_in
theorem sc_turn_plan_in : FnScope ["stand", "goal"] ["stand", "goal"] (defScope (topS 49)) := ⟨rfl, rfl, rfl, by decide +kernel, rfl, by decide +kernel, by decide +kernel⟩
theorem cal_turn_plan_in (B : Bt mg) (F : Df K mg "turn_plan_in" (topS 49) ["stand", "goal"]) (c_slants_in : Cal P w K mg base 2 "slants_in" F_slants_in) (c_turns_told : Cal P w K mg base 4 "turns_told" F_turns_told)  : Cal P w K mg base 5 "turn_plan_in" F_turn_plan_in :=
  cal_D (N := ["stand", "goal"]) F sc_turn_plan_in fun f cdv A outer s H E hr => have nd := (sc_turn_plan_in).nd
    (z1 (zret (xcall c_turns_told hr (by decide) rfl (ac (xcall c_slants_in hr (by decide) rfl (ac (xv 0 rfl (Or.inl rfl)) (ac (xv 1 rfl (Or.inl rfl)) an))) an))))


/-! ### are_turns -/
def B_are_turns : Ev → Option Out := (rtE (aE allD (consA (compE (seqE (vE 0)) (.one 1) ([1]) yesB (o2 dEq (o2 dIx (vE 1) (cE (.int 0))) (cE (.str "turn")))) nilA)))
def F_are_turns : List D → Option D := runF 1 2 B_are_turns
theorem sc_are_turns : FnScope ["row", "move"] ["row"] (defScope (topS 51)) := ⟨rfl, rfl, rfl, by decide +kernel, rfl, by decide +kernel, by decide +kernel⟩
theorem cal_are_turns (B : Bt mg) (F : Df K mg "are_turns" (topS 51) ["row"])   : Cal P w K mg base 1 "are_turns" F_are_turns :=
  cal_D (N := ["row", "move"]) F sc_are_turns fun f cdv A outer s H E hr => have nd := (sc_are_turns).nd
    (z1 (zret (xcallB (cl_all rfl) (by decide +kernel) B.all_ rfl (ac (xlc (.one 1) [("move", 1)] (by decide) rfl nd (iseq (xv 0 rfl (Or.inl rfl))) (blkOk_by (N := ["row", "move"]) (sc := defScope (topS 51)) (by decide +kernel)) (fun _ _ _ _ _ => (g1 nd rfl (Or.inl rfl))) (fun _ _ _ _ _ => ts0) (fun _ _ _ _ _ => (xcmp (op_dEq hr.units) (xix (xv 1 rfl (Or.inl rfl)) xc_int) xc_str (nomark _)))) an))))


/-! ### is_turn_plan_in -/
def B_is_turn_plan_in : Ev → Option Out := (sqE (isE (orB (notB (toB (aE F_is_row_in (consA (vE 2) nilA)))) (orB (toB (o2 dGt (aE lenD (consA (vE 2) nilA)) (cE (.int 2000)))) (notB (toB (aE F_are_turns (consA (vE 2) nilA)))))) (rtE (cE (.bool false))) ndE)
  (rtE (andV (o2 dEq (aE lenD (consA (vE 2) nilA)) (aE F_fewest_turned_in (consA (vE 0) (consA (vE 1) nilA)))) (o2 dEq (aE F_behind_in (consA (vE 0) (consA (vE 2) nilA))) (vE 1)))))
def F_is_turn_plan_in : List D → Option D := runF 3 3 B_is_turn_plan_in
theorem sc_is_turn_plan_in : FnScope ["stand", "goal", "thing"] ["stand", "goal", "thing"] (defScope (topS 52)) := ⟨rfl, rfl, rfl, by decide +kernel, rfl, by decide +kernel, by decide +kernel⟩
theorem cal_is_turn_plan_in (B : Bt mg) (F : Df K mg "is_turn_plan_in" (topS 52) ["stand", "goal", "thing"]) (c_is_row_in : Cal P w K mg base 4 "is_row_in" F_is_row_in) (c_are_turns : Cal P w K mg base 1 "are_turns" F_are_turns) (c_fewest_turned_in : Cal P w K mg base 3 "fewest_turned_in" F_fewest_turned_in) (c_behind_in : Cal P w K mg base 5 "behind_in" F_behind_in) (c_MOST_TURNED : Gc K mg "MOST_TURNED" (.int 2000)) : Cal P w K mg base 6 "is_turn_plan_in" F_is_turn_plan_in :=
  cal_D (N := ["stand", "goal", "thing"]) F sc_is_turn_plan_in fun f cdv A outer s H E hr => have nd := (sc_is_turn_plan_in).nd
    (zc (zif (PW.pt (tor (tnot (tval (xcall c_is_row_in hr (by decide) rfl (ac (xv 2 rfl (Or.inl rfl)) an)))) (tor (tcmp op_dGt (xcallB cl_len (by decide +kernel) B.len_ rfl (ac (xv 2 rfl (Or.inl rfl)) an)) (xgl c_MOST_TURNED rfl) (nomark _)) (tor1 (tnot (tval (xcall c_are_turns hr (by decide) rfl (ac (xv 2 rfl (Or.inl rfl)) an)))))))) (z1 (zret xc_bl)) zn)
    (z1 (zret (xand (xcmp (op_dEq hr.units) (xcallB cl_len (by decide +kernel) B.len_ rfl (ac (xv 2 rfl (Or.inl rfl)) an)) (xcall c_fewest_turned_in hr (by decide) rfl (ac (xv 0 rfl (Or.inl rfl)) (ac (xv 1 rfl (Or.inl rfl)) an))) (nomark _)) (xone (xcmp (op_dEq hr.units) (xcall c_behind_in hr (by decide) rfl (ac (xv 0 rfl (Or.inl rfl)) (ac (xv 2 rfl (Or.inl rfl)) an))) (xv 1 rfl (Or.inl rfl)) (nomark _)))))))


/-! ### is_turn_plan -/
def B_is_turn_plan : Ev → Option Out := (sqE (atE (.tup [3, 4]) (aE F_both_stands (consA (vE 0) (consA (vE 1) nilA))))
  (rtE (andV (o2 dEq (aE F_bar_in (consA (vE 3) (consA (vE 4) nilA))) (cE (.str ""))) (aE F_is_turn_plan_in (consA (vE 3) (consA (vE 4) (consA (vE 2) nilA)))))))
def F_is_turn_plan : List D → Option D := runF 3 5 B_is_turn_plan
theorem sc_is_turn_plan : FnScope ["stand", "goal", "thing", "own", "far"] ["stand", "goal", "thing"] (defScope (topS 53)) := ⟨rfl, rfl, rfl, by decide +kernel, rfl, by decide +kernel, by decide +kernel⟩
theorem cal_is_turn_plan (B : Bt mg) (F : Df K mg "is_turn_plan" (topS 53) ["stand", "goal", "thing"]) (c_both_stands : Cal P w K mg base 9 "both_stands" F_both_stands) (c_bar_in : Cal P w K mg base 3 "bar_in" F_bar_in) (c_is_turn_plan_in : Cal P w K mg base 6 "is_turn_plan_in" F_is_turn_plan_in)  : Cal P w K mg base 10 "is_turn_plan" F_is_turn_plan :=
  cal_D (N := ["stand", "goal", "thing", "own", "far"]) F sc_is_turn_plan fun f cdv A outer s H E hr => have nd := (sc_is_turn_plan).nd
    (zc (zasg (xcall c_both_stands hr (by decide) rfl (ac (xv 0 rfl (Or.inl rfl)) (ac (xv 1 rfl (Or.inl rfl)) an))) (gt rfl (gn1 (pg_name nd rfl (Or.inl rfl)) (gn1 (pg_name nd rfl (Or.inl rfl)) gn0))))
    (z1 (zret (xand (xcmp (op_dEq hr.units) (xcall c_bar_in hr (by decide) rfl (ac (xv 3 rfl (Or.inl rfl)) (ac (xv 4 rfl (Or.inl rfl)) an))) xc_str (nomark _)) (xone (xcall c_is_turn_plan_in hr (by decide) rfl (ac (xv 3 rfl (Or.inl rfl)) (ac (xv 4 rfl (Or.inl rfl)) (ac (xv 2 rfl (Or.inl rfl)) an)))))))))

end
end Mv

/-! part G4 -/
set_option maxHeartbeats 4000000
namespace Mv
open PySem PySem.Spec L2
section
variable {P : Program} {w : World} {K : PySem.W.Frag} {mg : Str → Option Value} {base : Heap}

/-! ### _law_lists -/
def B_law_lists (F_law_lists : List D → Option D) : Ev → Option Out := (rtE (ifE (toB (o1 (isi2D .list .tuple) (vE 0))) (compE (seqE (vE 0)) (.one 1) ([1]) yesB (aE F_law_lists (consA (vE 1) nilA))) (vE 0)))
def F_law_listsN : Nat → List D → Option D
  | 0 => fun _ => none
  | n + 1 => runF 1 2 (B_law_lists (F_law_listsN n))
def F_law_lists : List D → Option D := F_law_listsN 6
theorem sc_law_lists : FnScope ["_law_matter", "_law_bit"] ["_law_matter"] (defScope (topS 59)) := ⟨rfl, rfl, rfl, by decide +kernel, rfl, by decide +kernel, by decide +kernel⟩
theorem cal_law_listsN (B : Bt mg) (F : Df K mg "_law_lists" (topS 59) ["_law_matter"])   : ∀ n : Nat, Cal P w K mg base (n + 1) "_law_lists" (F_law_listsN n)
  | 0 => cal_none F
  | n + 1 => have c__law_lists : Cal P w K mg base (n + 1) "_law_lists" (F_law_listsN n) := cal_law_listsN B F n
    cal_D (N := ["_law_matter", "_law_bit"]) F sc_law_lists fun f cdv A outer s H E hr => have nd := (sc_law_lists).nd
    (z1 (zret (xif (tval (xisi2 .list .tuple nofun nofun (by decide +kernel) (by decide +kernel) B.isinstance B.list_ B.tuple_ rfl rfl rfl (xv 0 rfl (Or.inl rfl)))) (xlc (.one 1) [("_law_bit", 1)] (by decide) rfl nd (iseq (xv 0 rfl (Or.inl rfl))) (blkOk_by (N := ["_law_matter", "_law_bit"]) (sc := defScope (topS 59)) (by decide +kernel)) (fun _ _ _ _ _ => (g1 nd rfl (Or.inl rfl))) (fun _ _ _ _ _ => ts0) (fun _ _ _ _ _ => (xcall c__law_lists hr (Nat.le_refl _) rfl (ac (xv 1 rfl (Or.inl rfl)) an)))) (xv 0 rfl (Or.inl rfl)))))
theorem cal_law_lists (B : Bt mg) (F : Df K mg "_law_lists" (topS 59) ["_law_matter"])   : Cal P w K mg base 7 "_law_lists" F_law_lists := cal_law_listsN B F 6


/-! ### _law_same -/
def B_law_same (F_law_same : List D → Option D) : Ev → Option Out := (sqE (isE (toB (o1 (isi2D .list .tuple) (vE 1))) (sqE (isE (orB (toB (o2 dNe (o1 (isiD .list) (vE 0)) (o1 (isiD .list) (vE 1)))) (toB (o2 dNe (o1 (isiD .tuple) (vE 0)) (o1 (isiD .tuple) (vE 1))))) (rtE (cE (.bool false))) ndE)
  (rtE (andV (o2 dEq (aE lenD (consA (vE 0) nilA)) (aE lenD (consA (vE 1) nilA))) (aE allD (consA (compE (zipE (vE 0) (vE 1)) (.tup [2, 3]) ([2, 3]) yesB (aE F_law_same (consA (vE 2) (consA (vE 3) nilA)))) nilA))))) ndE)
  (sqE (isE (orB (toB (o2 isN (vE 1) (cE .none))) (toB (o1 (isi2D .bool .str) (vE 1)))) (rtE (andV (o2 dEq (vE 0) (vE 1)) (andV (o2 dEq (o1 (isiD .bool) (vE 0)) (o1 (isiD .bool) (vE 1))) (o2 dEq (o2 isN (vE 0) (cE .none)) (o2 isN (vE 1) (cE .none)))))) ndE)
  (rtE (andV (o1 (isiD .int) (vE 0)) (andV (notV (o1 (isiD .bool) (vE 0))) (o2 dEq (vE 0) (vE 1)))))))
def F_law_sameN : Nat → List D → Option D
  | 0 => fun _ => none
  | n + 1 => runF 2 4 (B_law_same (F_law_sameN n))
def F_law_same : List D → Option D := F_law_sameN 6
theorem sc_law_same : FnScope ["_law_got", "_law_due", "_law_mine", "_law_its"] ["_law_got", "_law_due"] (defScope (topS 60)) := ⟨rfl, rfl, rfl, by decide +kernel, rfl, by decide +kernel, by decide +kernel⟩
theorem cal_law_sameN (B : Bt mg) (F : Df K mg "_law_same" (topS 60) ["_law_got", "_law_due"])   : ∀ n : Nat, Cal P w K mg base (n + 1) "_law_same" (F_law_sameN n)
  | 0 => cal_none F
  | n + 1 => have c__law_same : Cal P w K mg base (n + 1) "_law_same" (F_law_sameN n) := cal_law_sameN B F n
    cal_D (N := ["_law_got", "_law_due", "_law_mine", "_law_its"]) F sc_law_same fun f cdv A outer s H E hr => have nd := (sc_law_same).nd
    (zc (zif (tval (xisi2 .list .tuple nofun nofun (by decide +kernel) (by decide +kernel) B.isinstance B.list_ B.tuple_ rfl rfl rfl (xv 1 rfl (Or.inl rfl)))) (zc (zif (PW.pt (tor (tcmp (op_dNe hr.units) (xisi .list nofun (by decide +kernel) B.isinstance B.list_ rfl rfl (xv 0 rfl (Or.inl rfl))) (xisi .list nofun (by decide +kernel) B.isinstance B.list_ rfl rfl (xv 1 rfl (Or.inl rfl))) (nomark _)) (tor1 (tcmp (op_dNe hr.units) (xisi .tuple nofun (by decide +kernel) B.isinstance B.tuple_ rfl rfl (xv 0 rfl (Or.inl rfl))) (xisi .tuple nofun (by decide +kernel) B.isinstance B.tuple_ rfl rfl (xv 1 rfl (Or.inl rfl))) (nomark _))))) (z1 (zret xc_bl)) zn)
    (z1 (zret (xand (xcmp (op_dEq hr.units) (xcallB cl_len (by decide +kernel) B.len_ rfl (ac (xv 0 rfl (Or.inl rfl)) an)) (xcallB cl_len (by decide +kernel) B.len_ rfl (ac (xv 1 rfl (Or.inl rfl)) an)) (nomark _)) (xone (xcallB (cl_all rfl) (by decide +kernel) B.all_ rfl (ac (xlc (.tup [2, 3]) [("_law_mine", 2), ("_law_its", 3)] (by decide) rfl nd (izip B.zip_ rfl (xv 0 rfl (Or.inl rfl)) (xv 1 rfl (Or.inl rfl))) (blkOk_by (N := ["_law_got", "_law_due", "_law_mine", "_law_its"]) (sc := defScope (topS 60)) (by decide +kernel)) (fun _ _ _ _ _ => (gt rfl (gn1 (pg_name nd rfl (Or.inl rfl)) (gn1 (pg_name nd rfl (Or.inl rfl)) gn0)))) (fun _ _ _ _ _ => ts0) (fun _ _ _ _ _ => (xcall c__law_same hr (Nat.le_refl _) rfl (ac (xv 2 rfl (Or.inl rfl)) (ac (xv 3 rfl (Or.inl rfl)) an))))) an))))))) zn)
    (zc (zif (PW.pt (tor (tcmp op_dIs (xv 1 rfl (Or.inl rfl)) xc_non (nomark _)) (tor1 (tval (xisi2 .bool .str nofun nofun (by decide +kernel) (by decide +kernel) B.isinstance B.bool_ B.str_ rfl rfl rfl (xv 1 rfl (Or.inl rfl))))))) (z1 (zret (xand (xcmp (op_dEq hr.units) (xv 0 rfl (Or.inl rfl)) (xv 1 rfl (Or.inl rfl)) (nomark _)) (xand (xcmp (op_dEq hr.units) (xisi .bool nofun (by decide +kernel) B.isinstance B.bool_ rfl rfl (xv 0 rfl (Or.inl rfl))) (xisi .bool nofun (by decide +kernel) B.isinstance B.bool_ rfl rfl (xv 1 rfl (Or.inl rfl))) (nomark _)) (xone (xcmp (op_dEq hr.units) (xcmp op_dIs (xv 0 rfl (Or.inl rfl)) xc_non (nomark _)) (xcmp op_dIs (xv 1 rfl (Or.inl rfl)) xc_non (nomark _)) (nomark _))))))) zn)
    (z1 (zret (xand (xisi .int nofun (by decide +kernel) B.isinstance B.int_ rfl rfl (xv 0 rfl (Or.inl rfl))) (xand (xnot (xisi .bool nofun (by decide +kernel) B.isinstance B.bool_ rfl rfl (xv 0 rfl (Or.inl rfl)))) (xone (xcmp (op_dEq hr.units) (xv 0 rfl (Or.inl rfl)) (xv 1 rfl (Or.inl rfl)) (nomark _)))))))))
theorem cal_law_same (B : Bt mg) (F : Df K mg "_law_same" (topS 60) ["_law_got", "_law_due"])   : Cal P w K mg base 7 "_law_same" F_law_same := cal_law_sameN B F 6


/-! ### _law_home -/
def B_law_home : Ev → Option Out := (rtE (aE mkT (consA (aE mkT (consA (cE (.int 0)) (consA (cE (.int 1)) (consA (cE (.int 2)) nilA)))) (consA (aE mkT (consA (cE (.int 0)) (consA (cE (.int 0)) (consA (cE (.int 0)) nilA)))) (consA (aE mkT (consA (cE (.int 0)) (consA (cE (.int 0)) (consA (cE (.int 0)) nilA)))) (consA (aE mkT (consA (cE (.int 1)) (consA (cE (.int 1)) (consA (cE (.int 1)) nilA)))) nilA))))))
def F_law_home : List D → Option D := runF 0 0 B_law_home
theorem sc_law_home : FnScope [] [] (defScope (topS 61)) := ⟨rfl, rfl, rfl, by decide +kernel, rfl, by decide +kernel, by decide +kernel⟩
theorem cal_law_home (B : Bt mg) (F : Df K mg "_law_home" (topS 61) [])   : Cal P w K mg base 1 "_law_home" F_law_home :=
  cal_D (N := []) F sc_law_home fun f cdv A outer s H E hr => have nd := (sc_law_home).nd
    (z1 (zret (xtup (ac (xtup (ac xc_int (ac xc_int (ac xc_int an)))) (ac (xtup (ac xc_int (ac xc_int (ac xc_int an)))) (ac (xtup (ac xc_int (ac xc_int (ac xc_int an)))) (ac (xtup (ac xc_int (ac xc_int (ac xc_int an)))) an)))))))


/-! ### _law_poses -/
def B_law_poses : Ev → Option Out := (rtE (aE mkL (consA (aE mkT (consA (cE (.int 0)) (consA (cE (.int 1)) (consA (cE (.int 2)) nilA)))) (consA (aE mkT (consA (cE (.int 2)) (consA (cE (.int 1)) (consA (cE (.int 0)) nilA)))) (consA (aE mkT (consA (cE (.int 2)) (consA (cE (.int 0)) (consA (cE (.int 1)) nilA)))) (consA (aE mkT (consA (cE (.int 1)) (consA (cE (.int 0)) (consA (cE (.int 2)) nilA)))) (consA (aE mkT (consA (cE (.int 1)) (consA (cE (.int 2)) (consA (cE (.int 0)) nilA)))) (consA (aE mkT (consA (cE (.int 0)) (consA (cE (.int 2)) (consA (cE (.int 1)) nilA)))) nilA))))))))
def F_law_poses : List D → Option D := runF 0 0 B_law_poses
theorem sc_law_poses : FnScope [] [] (defScope (topS 62)) := ⟨rfl, rfl, rfl, by decide +kernel, rfl, by decide +kernel, by decide +kernel⟩
theorem cal_law_poses (B : Bt mg) (F : Df K mg "_law_poses" (topS 62) [])   : Cal P w K mg base 1 "_law_poses" F_law_poses :=
  cal_D (N := []) F sc_law_poses fun f cdv A outer s H E hr => have nd := (sc_law_poses).nd
    (z1 (zret (xlst (ac (xtup (ac xc_int (ac xc_int (ac xc_int an)))) (ac (xtup (ac xc_int (ac xc_int (ac xc_int an)))) (ac (xtup (ac xc_int (ac xc_int (ac xc_int an)))) (ac (xtup (ac xc_int (ac xc_int (ac xc_int an)))) (ac (xtup (ac xc_int (ac xc_int (ac xc_int an)))) (ac (xtup (ac xc_int (ac xc_int (ac xc_int an)))) an)))))))))


/-! ### _law_plus -/
def B_law_plus : Ev → Option Out := (rtE (o2 dAdd (o2 dAdd (slE (vE 0) none (some (vE 1))) (aE mkT (consA (o2 dAdd (o2 dIx (vE 0) (vE 1)) (vE 2)) nilA))) (slE (vE 0) (some (o2 dAdd (vE 1) (cE (.int 1)))) none)))
def F_law_plus : List D → Option D := runF 3 3 B_law_plus
theorem sc_law_plus : FnScope ["_law_row_so", "_law_k", "_law_by_so"] ["_law_row_so", "_law_k", "_law_by_so"] (defScope (topS 63)) := ⟨rfl, rfl, rfl, by decide +kernel, rfl, by decide +kernel, by decide +kernel⟩
theorem cal_law_plus (B : Bt mg) (F : Df K mg "_law_plus" (topS 63) ["_law_row_so", "_law_k", "_law_by_so"])   : Cal P w K mg base 1 "_law_plus" F_law_plus :=
  cal_D (N := ["_law_row_so", "_law_k", "_law_by_so"]) F sc_law_plus fun f cdv A outer s H E hr => have nd := (sc_law_plus).nd
    (z1 (zret (xo2 op_dAdd (xo2 op_dAdd (xslice (xv 0 rfl (Or.inl rfl)) pno (psm (xv 1 rfl (Or.inl rfl)))) (xtup (ac (xo2 op_dAdd (xix (xv 0 rfl (Or.inl rfl)) (xv 1 rfl (Or.inl rfl))) (xv 2 rfl (Or.inl rfl))) an))) (xslice (xv 0 rfl (Or.inl rfl)) (psm (xo2 op_dAdd (xv 1 rfl (Or.inl rfl)) xc_int)) pno))))


/-! ### _law_flip -/
def B_law_flip : Ev → Option Out := (rtE (o2 dAdd (o2 dAdd (slE (vE 0) none (some (vE 1))) (aE mkT (consA (o1 dNeg (o2 dIx (vE 0) (vE 1))) nilA))) (slE (vE 0) (some (o2 dAdd (vE 1) (cE (.int 1)))) none)))
def F_law_flip : List D → Option D := runF 2 2 B_law_flip
theorem sc_law_flip : FnScope ["_law_row_so", "_law_k"] ["_law_row_so", "_law_k"] (defScope (topS 64)) := ⟨rfl, rfl, rfl, by decide +kernel, rfl, by decide +kernel, by decide +kernel⟩
theorem cal_law_flip (B : Bt mg) (F : Df K mg "_law_flip" (topS 64) ["_law_row_so", "_law_k"])   : Cal P w K mg base 1 "_law_flip" F_law_flip :=
  cal_D (N := ["_law_row_so", "_law_k"]) F sc_law_flip fun f cdv A outer s H E hr => have nd := (sc_law_flip).nd
    (z1 (zret (xo2 op_dAdd (xo2 op_dAdd (xslice (xv 0 rfl (Or.inl rfl)) pno (psm (xv 1 rfl (Or.inl rfl)))) (xtup (ac (xo1 un_dNeg (xix (xv 0 rfl (Or.inl rfl)) (xv 1 rfl (Or.inl rfl)))) an))) (xslice (xv 0 rfl (Or.inl rfl)) (psm (xo2 op_dAdd (xv 1 rfl (Or.inl rfl)) xc_int)) pno))))


/-! ### _law_tip -/
def B_law_tip : Ev → Option Out := (sqE (atE (.tup [4, 5, 3, 6]) (vE 0))
  (sqE (atE (.tup [7, 8, 9]) (vE 4))
  (sqE (asE 2 (ifE (toB (o2 dLt (vE 1) (cE (.int 2)))) (cE (.int 1)) (o1 dNeg (cE (.int 1)))))
  (sqE (isE (toB (o2 dEq (o2 dMod (vE 1) (cE (.int 2))) (cE (.int 0)))) (sqE (asE 5 (aE F_law_plus (consA (aE F_law_plus (consA (vE 5) (consA (vE 7) (consA (vE 2) nilA)))) (consA (vE 9) (consA (vE 2) nilA)))))
  (rtE (aE mkT (consA (aE mkT (consA (vE 9) (consA (vE 8) (consA (vE 7) nilA)))) (consA (vE 5) (consA (vE 3) (consA (aE F_law_flip (consA (vE 6) (consA (ifE (toB (o2 dEq (vE 1) (cE (.int 0)))) (vE 7) (vE 9)) nilA))) nilA))))))) ndE)
  (sqE (asE 3 (aE F_law_plus (consA (aE F_law_plus (consA (vE 3) (consA (vE 8) (consA (vE 2) nilA)))) (consA (vE 9) (consA (vE 2) nilA)))))
  (rtE (aE mkT (consA (aE mkT (consA (vE 7) (consA (vE 9) (consA (vE 8) nilA)))) (consA (vE 5) (consA (vE 3) (consA (aE F_law_flip (consA (vE 6) (consA (ifE (toB (o2 dEq (vE 1) (cE (.int 1)))) (vE 8) (vE 9)) nilA))) nilA)))))))))))
def F_law_tip : List D → Option D := runF 2 10 B_law_tip
theorem sc_law_tip : FnScope ["_law_spot", "_law_way_so", "_law_by_so", "_law_ys_so", "_law_pose", "_law_xs_so", "_law_looks_so", "_law_i", "_law_j", "_law_k"] ["_law_spot", "_law_way_so"] (defScope (topS 65)) := ⟨rfl, rfl, rfl, by decide +kernel, rfl, by decide +kernel, by decide +kernel⟩
theorem cal_law_tip (B : Bt mg) (F : Df K mg "_law_tip" (topS 65) ["_law_spot", "_law_way_so"]) (c__law_plus : Cal P w K mg base 1 "_law_plus" F_law_plus) (c__law_flip : Cal P w K mg base 1 "_law_flip" F_law_flip)  : Cal P w K mg base 2 "_law_tip" F_law_tip :=
  cal_D (N := ["_law_spot", "_law_way_so", "_law_by_so", "_law_ys_so", "_law_pose", "_law_xs_so", "_law_looks_so", "_law_i", "_law_j", "_law_k"]) F sc_law_tip fun f cdv A outer s H E hr => have nd := (sc_law_tip).nd
    (zc (zasg (xv 0 rfl (Or.inl rfl)) (gt rfl (gn1 (pg_name nd rfl (Or.inl rfl)) (gn1 (pg_name nd rfl (Or.inl rfl)) (gn1 (pg_name nd rfl (Or.inl rfl)) (gn1 (pg_name nd rfl (Or.inl rfl)) gn0))))))
    (zc (zasg (xv 4 rfl (Or.inl rfl)) (gt rfl (gn1 (pg_name nd rfl (Or.inl rfl)) (gn1 (pg_name nd rfl (Or.inl rfl)) (gn1 (pg_name nd rfl (Or.inl rfl)) gn0)))))
    (zc (zset (i := 2) nd rfl (Or.inl rfl) (xif (tcmp op_dLt (xv 1 rfl (Or.inl rfl)) xc_int (nomark _)) xc_int (xo1 un_dNeg xc_int)))
    (zc (zif (tcmp (op_dEq hr.units) (xo2 op_dMod (xv 1 rfl (Or.inl rfl)) xc_int) xc_int (nomark _)) (zc (zset (i := 5) nd rfl (Or.inl rfl) (xcall c__law_plus hr (by decide) rfl (ac (xcall c__law_plus hr (by decide) rfl (ac (xv 5 rfl (Or.inl rfl)) (ac (xv 7 rfl (Or.inl rfl)) (ac (xv 2 rfl (Or.inl rfl)) an)))) (ac (xv 9 rfl (Or.inl rfl)) (ac (xv 2 rfl (Or.inl rfl)) an)))))
    (z1 (zret (xtup (ac (xtup (ac (xv 9 rfl (Or.inl rfl)) (ac (xv 8 rfl (Or.inl rfl)) (ac (xv 7 rfl (Or.inl rfl)) an)))) (ac (xv 5 rfl (Or.inl rfl)) (ac (xv 3 rfl (Or.inl rfl)) (ac (xcall c__law_flip hr (by decide) rfl (ac (xv 6 rfl (Or.inl rfl)) (ac (xif (tcmp (op_dEq hr.units) (xv 1 rfl (Or.inl rfl)) xc_int (nomark _)) (xv 7 rfl (Or.inl rfl)) (xv 9 rfl (Or.inl rfl))) an))) an)))))))) zn)
    (zc (zset (i := 3) nd rfl (Or.inl rfl) (xcall c__law_plus hr (by decide) rfl (ac (xcall c__law_plus hr (by decide) rfl (ac (xv 3 rfl (Or.inl rfl)) (ac (xv 8 rfl (Or.inl rfl)) (ac (xv 2 rfl (Or.inl rfl)) an)))) (ac (xv 9 rfl (Or.inl rfl)) (ac (xv 2 rfl (Or.inl rfl)) an)))))
    (z1 (zret (xtup (ac (xtup (ac (xv 7 rfl (Or.inl rfl)) (ac (xv 9 rfl (Or.inl rfl)) (ac (xv 8 rfl (Or.inl rfl)) an)))) (ac (xv 5 rfl (Or.inl rfl)) (ac (xv 3 rfl (Or.inl rfl)) (ac (xcall c__law_flip hr (by decide) rfl (ac (xv 6 rfl (Or.inl rfl)) (ac (xif (tcmp (op_dEq hr.units) (xv 1 rfl (Or.inl rfl)) xc_int (nomark _)) (xv 8 rfl (Or.inl rfl)) (xv 9 rfl (Or.inl rfl))) an))) an))))))))))))


/-! ### _law_turn -/
def B_law_turn : Ev → Option Out := (sqE (atE (.tup [7, 5, 6, 8]) (vE 0))
  (sqE (atE (.tup [9, 10, 11]) (vE 7))
  (sqE (asE 3 (ifE (toB (o2 dIn (vE 1) (aE mkT (consA (cE (.int 1)) (consA (cE (.int 2)) nilA))))) (cE (.int 1)) (o1 dNeg (cE (.int 1)))))
  (sqE (asE 4 (ifE (toB (o2 dIn (vE 1) (aE mkT (consA (cE (.int 2)) (consA (cE (.int 3)) nilA))))) (cE (.int 1)) (o1 dNeg (cE (.int 1)))))
  (sqE (asE 5 (aE F_law_plus (consA (aE F_law_plus (consA (vE 5) (consA (vE 9) (consA (vE 3) nilA)))) (consA (vE 10) (consA (o2 dMul (vE 4) (vE 2)) nilA)))))
  (sqE (asE 6 (aE F_law_plus (consA (aE F_law_plus (consA (vE 6) (consA (vE 10) (consA (vE 4) nilA)))) (consA (vE 9) (consA (o2 dMul (o1 dNeg (vE 3)) (vE 2)) nilA)))))
  (rtE (aE mkT (consA (aE mkT (consA (vE 10) (consA (vE 9) (consA (vE 11) nilA)))) (consA (vE 5) (consA (vE 6) (consA (aE F_law_flip (consA (vE 8) (consA (ifE (toB (o2 dEq (vE 2) (cE (.int 1)))) (vE 10) (vE 9)) nilA))) nilA))))))))))))
def F_law_turn : List D → Option D := runF 3 12 B_law_turn
theorem sc_law_turn : FnScope ["_law_spot", "_law_corner_so", "_law_hand_so", "_law_u", "_law_v", "_law_xs_so", "_law_ys_so", "_law_pose", "_law_looks_so", "_law_i", "_law_j", "_law_k"] ["_law_spot", "_law_corner_so", "_law_hand_so"] (defScope (topS 66)) := ⟨rfl, rfl, rfl, by decide +kernel, rfl, by decide +kernel, by decide +kernel⟩
theorem cal_law_turn (B : Bt mg) (F : Df K mg "_law_turn" (topS 66) ["_law_spot", "_law_corner_so", "_law_hand_so"]) (c__law_plus : Cal P w K mg base 1 "_law_plus" F_law_plus) (c__law_flip : Cal P w K mg base 1 "_law_flip" F_law_flip)  : Cal P w K mg base 2 "_law_turn" F_law_turn :=
  cal_D (N := ["_law_spot", "_law_corner_so", "_law_hand_so", "_law_u", "_law_v", "_law_xs_so", "_law_ys_so", "_law_pose", "_law_looks_so", "_law_i", "_law_j", "_law_k"]) F sc_law_turn fun f cdv A outer s H E hr => have nd := (sc_law_turn).nd
    (zc (zasg (xv 0 rfl (Or.inl rfl)) (gt rfl (gn1 (pg_name nd rfl (Or.inl rfl)) (gn1 (pg_name nd rfl (Or.inl rfl)) (gn1 (pg_name nd rfl (Or.inl rfl)) (gn1 (pg_name nd rfl (Or.inl rfl)) gn0))))))
    (zc (zasg (xv 7 rfl (Or.inl rfl)) (gt rfl (gn1 (pg_name nd rfl (Or.inl rfl)) (gn1 (pg_name nd rfl (Or.inl rfl)) (gn1 (pg_name nd rfl (Or.inl rfl)) gn0)))))
    (zc (zset (i := 3) nd rfl (Or.inl rfl) (xif (tcmp (op_dIn (u65 hr)) (xv 1 rfl (Or.inl rfl)) (xtup (ac xc_int (ac xc_int an))) rfl) xc_int (xo1 un_dNeg xc_int)))
    (zc (zset (i := 4) nd rfl (Or.inl rfl) (xif (tcmp (op_dIn (u65 hr)) (xv 1 rfl (Or.inl rfl)) (xtup (ac xc_int (ac xc_int an))) rfl) xc_int (xo1 un_dNeg xc_int)))
    (zc (zset (i := 5) nd rfl (Or.inl rfl) (xcall c__law_plus hr (by decide) rfl (ac (xcall c__law_plus hr (by decide) rfl (ac (xv 5 rfl (Or.inl rfl)) (ac (xv 9 rfl (Or.inl rfl)) (ac (xv 3 rfl (Or.inl rfl)) an)))) (ac (xv 10 rfl (Or.inl rfl)) (ac (xo2 op_dMul (xv 4 rfl (Or.inl rfl)) (xv 2 rfl (Or.inl rfl))) an)))))
    (zc (zset (i := 6) nd rfl (Or.inl rfl) (xcall c__law_plus hr (by decide) rfl (ac (xcall c__law_plus hr (by decide) rfl (ac (xv 6 rfl (Or.inl rfl)) (ac (xv 10 rfl (Or.inl rfl)) (ac (xv 4 rfl (Or.inl rfl)) an)))) (ac (xv 9 rfl (Or.inl rfl)) (ac (xo2 op_dMul (xo1 un_dNeg (xv 3 rfl (Or.inl rfl))) (xv 2 rfl (Or.inl rfl))) an)))))
    (z1 (zret (xtup (ac (xtup (ac (xv 10 rfl (Or.inl rfl)) (ac (xv 9 rfl (Or.inl rfl)) (ac (xv 11 rfl (Or.inl rfl)) an)))) (ac (xv 5 rfl (Or.inl rfl)) (ac (xv 6 rfl (Or.inl rfl)) (ac (xcall c__law_flip hr (by decide) rfl (ac (xv 8 rfl (Or.inl rfl)) (ac (xif (tcmp (op_dEq hr.units) (xv 2 rfl (Or.inl rfl)) xc_int (nomark _)) (xv 10 rfl (Or.inl rfl)) (xv 9 rfl (Or.inl rfl))) an))) an)))))))))))))


/-! ### _law_step -/
def B_law_step : Ev → Option Out := (rtE (ifE (toB (o2 dEq (o2 dIx (vE 1) (cE (.int 0))) (cE (.str "tip")))) (aE F_law_tip (consA (vE 0) (consA (o2 dIx (vE 1) (cE (.int 1))) nilA))) (aE F_law_turn (consA (vE 0) (consA (o2 dIx (vE 1) (cE (.int 1))) (consA (o2 dIx (vE 1) (cE (.int 2))) nilA))))))
def F_law_step : List D → Option D := runF 2 2 B_law_step
theorem sc_law_step : FnScope ["_law_spot", "_law_step_here"] ["_law_spot", "_law_step_here"] (defScope (topS 67)) := ⟨rfl, rfl, rfl, by decide +kernel, rfl, by decide +kernel, by decide +kernel⟩
theorem cal_law_step (B : Bt mg) (F : Df K mg "_law_step" (topS 67) ["_law_spot", "_law_step_here"]) (c__law_tip : Cal P w K mg base 2 "_law_tip" F_law_tip) (c__law_turn : Cal P w K mg base 2 "_law_turn" F_law_turn)  : Cal P w K mg base 3 "_law_step" F_law_step :=
  cal_D (N := ["_law_spot", "_law_step_here"]) F sc_law_step fun f cdv A outer s H E hr => have nd := (sc_law_step).nd
    (z1 (zret (xif (tcmp (op_dEq hr.units) (xix (xv 1 rfl (Or.inl rfl)) xc_int) xc_str (nomark _)) (xcall c__law_tip hr (by decide) rfl (ac (xv 0 rfl (Or.inl rfl)) (ac (xix (xv 1 rfl (Or.inl rfl)) xc_int) an))) (xcall c__law_turn hr (by decide) rfl (ac (xv 0 rfl (Or.inl rfl)) (ac (xix (xv 1 rfl (Or.inl rfl)) xc_int) (ac (xix (xv 1 rfl (Or.inl rfl)) xc_int) an)))))))


/-! ### _law_behind -/
def B_law_behind : Ev → Option Out := (sqE (frE (seqE (vE 1)) (.one 2) (asE 0 (aE F_law_step (consA (vE 0) (consA (vE 2) nilA)))))
  (rtE (vE 0)))
def F_law_behind : List D → Option D := runF 2 3 B_law_behind
theorem sc_law_behind : FnScope ["_law_spot", "_law_walk_here", "_law_step_here"] ["_law_spot", "_law_walk_here"] (defScope (topS 68)) := ⟨rfl, rfl, rfl, by decide +kernel, rfl, by decide +kernel, by decide +kernel⟩
theorem cal_law_behind (B : Bt mg) (F : Df K mg "_law_behind" (topS 68) ["_law_spot", "_law_walk_here"]) (c__law_step : Cal P w K mg base 3 "_law_step" F_law_step)  : Cal P w K mg base 4 "_law_behind" F_law_behind :=
  cal_D (N := ["_law_spot", "_law_walk_here", "_law_step_here"]) F sc_law_behind fun f cdv A outer s H E hr => have nd := (sc_law_behind).nd
    (zc (zfor PassesOwn.never rfl (iseq (xv 1 rfl (Or.inl rfl))) (g1 nd rfl (Or.inl rfl)) (z1 (zset (i := 0) nd rfl (Or.inl rfl) (xcall c__law_step hr (by decide) rfl (ac (xv 0 rfl (Or.inl rfl)) (ac (xv 2 rfl (Or.inl rfl)) an))))))
    (z1 (zret (xv 0 rfl (Or.inl rfl)))))


/-! ### _law_tips -/
def B_law_tips : Ev → Option Out := (rtE (compE (rngE (cE (.int 4))) (.one 0) ([0]) yesB (aE mkT (consA (cE (.str "tip")) (consA (vE 0) nilA)))))
def F_law_tips : List D → Option D := runF 0 1 B_law_tips
theorem sc_law_tips : FnScope ["_law_k"] [] (defScope (topS 69)) := ⟨rfl, rfl, rfl, by decide +kernel, rfl, by decide +kernel, by decide +kernel⟩
theorem cal_law_tips (B : Bt mg) (F : Df K mg "_law_tips" (topS 69) [])   : Cal P w K mg base 1 "_law_tips" F_law_tips :=
  cal_D (N := ["_law_k"]) F sc_law_tips fun f cdv A outer s H E hr => have nd := (sc_law_tips).nd
    (z1 (zret (xlc (.one 0) [("_law_k", 0)] (by decide) rfl nd (irange B.range_ rfl xc_int) (blkOk_by (N := ["_law_k"]) (sc := defScope (topS 69)) (by decide +kernel)) (fun _ _ _ _ _ => (g1 nd rfl (Or.inl rfl))) (fun _ _ _ _ _ => ts0) (fun _ _ _ _ _ => (xtup (ac xc_str (ac (xv 0 rfl (Or.inl rfl)) an)))))))


/-! ### _law_turns -/
def B_law_turns : Ev → Option Out := (rtE (o2 dAdd (compE (rngE (cE (.int 4))) (.one 0) ([0]) yesB (aE mkT (consA (cE (.str "turn")) (consA (vE 0) (consA (cE (.int 1)) nilA))))) (compE (rngE (cE (.int 4))) (.one 0) ([0]) yesB (aE mkT (consA (cE (.str "turn")) (consA (vE 0) (consA (o1 dNeg (cE (.int 1))) nilA)))))))
def F_law_turns : List D → Option D := runF 0 1 B_law_turns
theorem sc_law_turns : FnScope ["_law_k"] [] (defScope (topS 70)) := ⟨rfl, rfl, rfl, by decide +kernel, rfl, by decide +kernel, by decide +kernel⟩
theorem cal_law_turns (B : Bt mg) (F : Df K mg "_law_turns" (topS 70) [])   : Cal P w K mg base 1 "_law_turns" F_law_turns :=
  cal_D (N := ["_law_k"]) F sc_law_turns fun f cdv A outer s H E hr => have nd := (sc_law_turns).nd
    (z1 (zret (xo2 op_dAdd (xlc (.one 0) [("_law_k", 0)] (by decide) rfl nd (irange B.range_ rfl xc_int) (blkOk_by (N := ["_law_k"]) (sc := defScope (topS 70)) (by decide +kernel)) (fun _ _ _ _ _ => (g1 nd rfl (Or.inl rfl))) (fun _ _ _ _ _ => ts0) (fun _ _ _ _ _ => (xtup (ac xc_str (ac (xv 0 rfl (Or.inl rfl)) (ac xc_int an)))))) (xlc (.one 0) [("_law_k", 0)] (by decide) rfl nd (irange B.range_ rfl xc_int) (blkOk_by (N := ["_law_k"]) (sc := defScope (topS 70)) (by decide +kernel)) (fun _ _ _ _ _ => (g1 nd rfl (Or.inl rfl))) (fun _ _ _ _ _ => ts0) (fun _ _ _ _ _ => (xtup (ac xc_str (ac (xv 0 rfl (Or.inl rfl)) (ac (xo1 un_dNeg xc_int) an)))))))))


/-! ### _law_lean -/
def B_law_lean : Ev → Option Out := (sqE (atE (.tup [4, 5, 6]) (o2 dIx (vE 0) (cE (.int 0))))
  (sqE (isE (orB (toB (o2 dNotIn (o2 dIx (vE 1) (cE (.int 0))) (aE mkT (consA (aE mkT (consA (vE 4) (consA (vE 5) (consA (vE 6) nilA)))) (consA (aE mkT (consA (vE 5) (consA (vE 4) (consA (vE 6) nilA)))) nilA))))) (orB (toB (o2 dNe (o2 dIx (o2 dIx (vE 0) (cE (.int 1))) (vE 6)) (o2 dIx (o2 dIx (vE 1) (cE (.int 1))) (vE 6)))) (toB (o2 dNe (o2 dIx (o2 dIx (vE 0) (cE (.int 2))) (vE 6)) (o2 dIx (o2 dIx (vE 1) (cE (.int 2))) (vE 6)))))) (rtE (cE .none)) ndE)
  (sqE (asE 2 (compE (zipE (o2 dIx (vE 0) (cE (.int 1))) (o2 dIx (vE 1) (cE (.int 1)))) (.tup [9, 10]) ([9, 10]) yesB (o2 dSub (vE 10) (vE 9))))
  (sqE (asE 3 (compE (zipE (o2 dIx (vE 0) (cE (.int 2))) (o2 dIx (vE 1) (cE (.int 2)))) (.tup [9, 10]) ([9, 10]) yesB (o2 dSub (vE 10) (vE 9))))
  (sqE (paE [7, 8] (consA (compE (zipE (vE 2) (vE 3)) (.tup [9, 10]) ([9, 10]) yesB (o2 dAdd (vE 9) (vE 10))) (consA (compE (zipE (vE 2) (vE 3)) (.tup [9, 10]) ([9, 10]) yesB (o2 dSub (vE 9) (vE 10))) nilA)))
  (sqE (isE (toB (o2 dNe (compE (seqE (aE mkT (consA (o2 dIx (vE 7) (vE 4)) (consA (o2 dIx (vE 7) (vE 5)) (consA (o2 dIx (vE 8) (vE 4)) (consA (o2 dIx (vE 8) (vE 5)) nilA)))))) (.one 9) ([9]) (toB (o2 dEq (o2 dMod (vE 9) (cE (.int 2))) (cE (.int 1)))) (cE (.int 1))) (aE mkL nilA))) (rtE (cE .none)) ndE)
  (rtE (aE mkT (consA (o2 dDiv (o2 dIx (vE 7) (vE 4)) (cE (.int 2))) (consA (o2 dDiv (o2 dIx (vE 8) (vE 5)) (cE (.int 2))) (consA (o2 dDiv (o2 dIx (vE 7) (vE 5)) (cE (.int 2))) (consA (o2 dDiv (o2 dIx (vE 8) (vE 4)) (cE (.int 2))) nilA))))))))))))
def F_law_lean : List D → Option D := runF 2 11 B_law_lean
theorem sc_law_lean : FnScope ["_law_one", "_law_two", "_law_xs_so", "_law_ys_so", "_law_i", "_law_j", "_law_k", "_law_sums_so", "_law_gaps_so", "_law_own", "_law_its"] ["_law_one", "_law_two"] (defScope (topS 72)) := ⟨rfl, rfl, rfl, by decide +kernel, rfl, by decide +kernel, by decide +kernel⟩
theorem cal_law_lean (B : Bt mg) (F : Df K mg "_law_lean" (topS 72) ["_law_one", "_law_two"])   : Cal P w K mg base 1 "_law_lean" F_law_lean :=
  cal_D (N := ["_law_one", "_law_two", "_law_xs_so", "_law_ys_so", "_law_i", "_law_j", "_law_k", "_law_sums_so", "_law_gaps_so", "_law_own", "_law_its"]) F sc_law_lean fun f cdv A outer s H E hr => have nd := (sc_law_lean).nd
    (zc (zasg (xix (xv 0 rfl (Or.inl rfl)) xc_int) (gt rfl (gn1 (pg_name nd rfl (Or.inl rfl)) (gn1 (pg_name nd rfl (Or.inl rfl)) (gn1 (pg_name nd rfl (Or.inl rfl)) gn0)))))
    (zc (zif (PW.pt (tor (tcmp (op_dNotIn (u65 hr)) (xix (xv 1 rfl (Or.inl rfl)) xc_int) (xtup (ac (xtup (ac (xv 4 rfl (Or.inl rfl)) (ac (xv 5 rfl (Or.inl rfl)) (ac (xv 6 rfl (Or.inl rfl)) an)))) (ac (xtup (ac (xv 5 rfl (Or.inl rfl)) (ac (xv 4 rfl (Or.inl rfl)) (ac (xv 6 rfl (Or.inl rfl)) an)))) an))) rfl) (tor (tcmp (op_dNe hr.units) (xix (xix (xv 0 rfl (Or.inl rfl)) xc_int) (xv 6 rfl (Or.inl rfl))) (xix (xix (xv 1 rfl (Or.inl rfl)) xc_int) (xv 6 rfl (Or.inl rfl))) (nomark _)) (tor1 (tcmp (op_dNe hr.units) (xix (xix (xv 0 rfl (Or.inl rfl)) xc_int) (xv 6 rfl (Or.inl rfl))) (xix (xix (xv 1 rfl (Or.inl rfl)) xc_int) (xv 6 rfl (Or.inl rfl))) (nomark _)))))) (z1 (zret xc_non)) zn)
    (zc (zsetLc (i := 2) (.tup [9, 10]) [("_law_own", 9), ("_law_its", 10)] (by decide) rfl nd rfl rfl (sw_true rfl rfl rfl (by decide +kernel)) (izip B.zip_ rfl (xix (xv 0 rfl (Or.inl rfl)) xc_int) (xix (xv 1 rfl (Or.inl rfl)) xc_int)) (blkOk_by (N := ["_law_one", "_law_two", "_law_xs_so", "_law_ys_so", "_law_i", "_law_j", "_law_k", "_law_sums_so", "_law_gaps_so", "_law_own", "_law_its"]) (sc := defScope (topS 72)) (by decide +kernel)) (fun _ _ _ _ _ => (gt rfl (gn1 (pg_name nd rfl (Or.inl rfl)) (gn1 (pg_name nd rfl (Or.inl rfl)) gn0)))) (fun _ _ _ _ _ => ts0) (fun _ _ _ _ _ => (xo2 op_dSub (xv 10 rfl (Or.inl rfl)) (xv 9 rfl (Or.inl rfl)))))
    (zc (zsetLc (i := 3) (.tup [9, 10]) [("_law_own", 9), ("_law_its", 10)] (by decide) rfl nd rfl rfl (sw_true rfl rfl rfl (by decide +kernel)) (izip B.zip_ rfl (xix (xv 0 rfl (Or.inl rfl)) xc_int) (xix (xv 1 rfl (Or.inl rfl)) xc_int)) (blkOk_by (N := ["_law_one", "_law_two", "_law_xs_so", "_law_ys_so", "_law_i", "_law_j", "_law_k", "_law_sums_so", "_law_gaps_so", "_law_own", "_law_its"]) (sc := defScope (topS 72)) (by decide +kernel)) (fun _ _ _ _ _ => (gt rfl (gn1 (pg_name nd rfl (Or.inl rfl)) (gn1 (pg_name nd rfl (Or.inl rfl)) gn0)))) (fun _ _ _ _ _ => ts0) (fun _ _ _ _ _ => (xo2 op_dSub (xv 10 rfl (Or.inl rfl)) (xv 9 rfl (Or.inl rfl)))))
    (zc (zpar2 (i := 7) (j := 8) rfl nd rfl rfl (by decide) rfl rfl (ac (xlc (.tup [9, 10]) [("_law_own", 9), ("_law_its", 10)] (by decide) rfl nd (izip B.zip_ rfl (xv 2 rfl (Or.inl rfl)) (xv 3 rfl (Or.inl rfl))) (blkOk_by (N := ["_law_one", "_law_two", "_law_xs_so", "_law_ys_so", "_law_i", "_law_j", "_law_k", "_law_sums_so", "_law_gaps_so", "_law_own", "_law_its"]) (sc := defScope (topS 72)) (by decide +kernel)) (fun _ _ _ _ _ => (gt rfl (gn1 (pg_name nd rfl (Or.inl rfl)) (gn1 (pg_name nd rfl (Or.inl rfl)) gn0)))) (fun _ _ _ _ _ => ts0) (fun _ _ _ _ _ => (xo2 op_dAdd (xv 9 rfl (Or.inl rfl)) (xv 10 rfl (Or.inl rfl))))) (ac (xlc (.tup [9, 10]) [("_law_own", 9), ("_law_its", 10)] (by decide) rfl nd (izip B.zip_ rfl (xv 2 rfl (Or.inl rfl)) (xv 3 rfl (Or.inl rfl))) (blkOk_by (N := ["_law_one", "_law_two", "_law_xs_so", "_law_ys_so", "_law_i", "_law_j", "_law_k", "_law_sums_so", "_law_gaps_so", "_law_own", "_law_its"]) (sc := defScope (topS 72)) (by decide +kernel)) (fun _ _ _ _ _ => (gt rfl (gn1 (pg_name nd rfl (Or.inl rfl)) (gn1 (pg_name nd rfl (Or.inl rfl)) gn0)))) (fun _ _ _ _ _ => ts0) (fun _ _ _ _ _ => (xo2 op_dSub (xv 9 rfl (Or.inl rfl)) (xv 10 rfl (Or.inl rfl))))) an)) rfl)
    (zc (zif (tcmp (op_dNe hr.units) (xlc (.one 9) [("_law_own", 9)] (by decide) rfl nd (iseq (xtup (ac (xix (xv 7 rfl (Or.inl rfl)) (xv 4 rfl (Or.inl rfl))) (ac (xix (xv 7 rfl (Or.inl rfl)) (xv 5 rfl (Or.inl rfl))) (ac (xix (xv 8 rfl (Or.inl rfl)) (xv 4 rfl (Or.inl rfl))) (ac (xix (xv 8 rfl (Or.inl rfl)) (xv 5 rfl (Or.inl rfl))) an)))))) (blkOk_by (N := ["_law_one", "_law_two", "_law_xs_so", "_law_ys_so", "_law_i", "_law_j", "_law_k", "_law_sums_so", "_law_gaps_so", "_law_own", "_law_its"]) (sc := defScope (topS 72)) (by decide +kernel)) (fun _ _ _ _ _ => (g1 nd rfl (Or.inl rfl))) (fun _ _ _ _ _ => (ts1 (tcmp (op_dEq hr.units) (xo2 op_dMod (xv 9 rfl (Or.inl rfl)) xc_int) xc_int (nomark _)))) (fun _ _ _ _ _ => xc_int)) (xlst an) (nomark _)) (z1 (zret xc_non)) zn)
    (z1 (zret (xtup (ac (xo2 op_dDiv (xix (xv 7 rfl (Or.inl rfl)) (xv 4 rfl (Or.inl rfl))) xc_int) (ac (xo2 op_dDiv (xix (xv 8 rfl (Or.inl rfl)) (xv 5 rfl (Or.inl rfl))) xc_int) (ac (xo2 op_dDiv (xix (xv 7 rfl (Or.inl rfl)) (xv 5 rfl (Or.inl rfl))) xc_int) (ac (xo2 op_dDiv (xix (xv 8 rfl (Or.inl rfl)) (xv 4 rfl (Or.inl rfl))) xc_int) an)))))))))))))


/-! ### _law_word -/
def B_law_word : Ev → Option Out := (sqE (atE (.tup [4, 5, 6]) (o2 dIx (vE 0) (cE (.int 0))))
  (sqE (isE (toB (o2 dNe (o2 dIx (o2 dIx (vE 1) (cE (.int 0))) (cE (.int 2))) (vE 6))) (rtE (cE (.str "shape"))) ndE)
  (sqE (isE (orB (toB (o2 dNe (o2 dIx (o2 dIx (vE 0) (cE (.int 1))) (vE 6)) (o2 dIx (o2 dIx (vE 1) (cE (.int 1))) (vE 6)))) (toB (o2 dNe (o2 dIx (o2 dIx (vE 0) (cE (.int 2))) (vE 6)) (o2 dIx (o2 dIx (vE 1) (cE (.int 2))) (vE 6))))) (rtE (cE (.str "upright"))) ndE)
  (sqE (asE 2 (aE F_law_lean (consA (vE 0) (consA (vE 1) nilA))))
  (sqE (isE (toB (o2 isN (vE 2) (cE .none))) (rtE (cE (.str "half"))) ndE)
  (sqE (isE (orB (toB (o2 dEq (o2 dMod (aE intD (consA (o2 dAdd (o2 dIx (vE 2) (cE (.int 0))) (o2 dIx (vE 2) (cE (.int 1)))) nilA)) (cE (.int 2))) (cE (.int 1)))) (toB (o2 dEq (o2 dMod (aE intD (consA (o2 dAdd (o2 dIx (vE 2) (cE (.int 2))) (o2 dIx (vE 2) (cE (.int 3)))) nilA)) (cE (.int 2))) (cE (.int 1))))) (rtE (cE (.str "odd"))) ndE)
  (sqE (isE (toB (o2 dNe (o2 dEq (o2 dIx (vE 1) (cE (.int 0))) (o2 dIx (vE 0) (cE (.int 0)))) (o2 dEq (o2 dMod (aE intD (consA (o2 dAdd (o2 dIx (vE 2) (cE (.int 0))) (o2 dIx (vE 2) (cE (.int 2)))) nilA)) (cE (.int 2))) (cE (.int 0))))) (rtE (cE (.str "way"))) ndE)
  (sqE (asE 3 (ifE (toB (o2 dEq (o2 dMod (o2 dIx (vE 2) (cE (.int 0))) (cE (.int 2))) (cE (.int 0)))) (o2 dIx (vE 0) (cE (.int 3))) (aE F_law_flip (consA (o2 dIx (vE 0) (cE (.int 3))) (consA (vE 4) nilA)))))
  (sqE (asE 3 (ifE (toB (o2 dEq (o2 dMod (o2 dIx (vE 2) (cE (.int 2))) (cE (.int 2))) (cE (.int 0)))) (vE 3) (aE F_law_flip (consA (vE 3) (consA (vE 5) nilA)))))
  (rtE (ifE (toB (o2 dEq (o2 dIx (vE 1) (cE (.int 3))) (vE 3))) (cE (.str "")) (cE (.str "fronts")))))))))))))
def F_law_word : List D → Option D := runF 2 7 B_law_word
theorem sc_law_word : FnScope ["_law_one", "_law_two", "_law_lean_here", "_law_looks_so", "_law_i", "_law_j", "_law_k"] ["_law_one", "_law_two"] (defScope (topS 77)) := ⟨rfl, rfl, rfl, by decide +kernel, rfl, by decide +kernel, by decide +kernel⟩
theorem cal_law_word (B : Bt mg) (F : Df K mg "_law_word" (topS 77) ["_law_one", "_law_two"]) (c__law_lean : Cal P w K mg base 1 "_law_lean" F_law_lean) (c__law_flip : Cal P w K mg base 1 "_law_flip" F_law_flip)  : Cal P w K mg base 2 "_law_word" F_law_word :=
  cal_D (N := ["_law_one", "_law_two", "_law_lean_here", "_law_looks_so", "_law_i", "_law_j", "_law_k"]) F sc_law_word fun f cdv A outer s H E hr => have nd := (sc_law_word).nd
    (zc (zasg (xix (xv 0 rfl (Or.inl rfl)) xc_int) (gt rfl (gn1 (pg_name nd rfl (Or.inl rfl)) (gn1 (pg_name nd rfl (Or.inl rfl)) (gn1 (pg_name nd rfl (Or.inl rfl)) gn0)))))
    (zc (zif (tcmp (op_dNe hr.units) (xix (xix (xv 1 rfl (Or.inl rfl)) xc_int) xc_int) (xv 6 rfl (Or.inl rfl)) (nomark _)) (z1 (zret xc_str)) zn)
    (zc (zif (PW.pt (tor (tcmp (op_dNe hr.units) (xix (xix (xv 0 rfl (Or.inl rfl)) xc_int) (xv 6 rfl (Or.inl rfl))) (xix (xix (xv 1 rfl (Or.inl rfl)) xc_int) (xv 6 rfl (Or.inl rfl))) (nomark _)) (tor1 (tcmp (op_dNe hr.units) (xix (xix (xv 0 rfl (Or.inl rfl)) xc_int) (xv 6 rfl (Or.inl rfl))) (xix (xix (xv 1 rfl (Or.inl rfl)) xc_int) (xv 6 rfl (Or.inl rfl))) (nomark _))))) (z1 (zret xc_str)) zn)
    (zc (zset (i := 2) nd rfl (Or.inl rfl) (xcall c__law_lean hr (by decide) rfl (ac (xv 0 rfl (Or.inl rfl)) (ac (xv 1 rfl (Or.inl rfl)) an))))
    (zc (zif (tcmp op_dIs (xv 2 rfl (Or.inl rfl)) xc_non (nomark _)) (z1 (zret xc_str)) zn)
    (zc (zif (PW.pt (tor (tcmp (op_dEq hr.units) (xo2 op_dMod (xcallTy cl_int (by decide +kernel) B.int_ rfl (ac (xo2 op_dAdd (xix (xv 2 rfl (Or.inl rfl)) xc_int) (xix (xv 2 rfl (Or.inl rfl)) xc_int)) an)) xc_int) xc_int (nomark _)) (tor1 (tcmp (op_dEq hr.units) (xo2 op_dMod (xcallTy cl_int (by decide +kernel) B.int_ rfl (ac (xo2 op_dAdd (xix (xv 2 rfl (Or.inl rfl)) xc_int) (xix (xv 2 rfl (Or.inl rfl)) xc_int)) an)) xc_int) xc_int (nomark _))))) (z1 (zret xc_str)) zn)
    (zc (zif (tcmp (op_dNe hr.units) (xcmp (op_dEq hr.units) (xix (xv 1 rfl (Or.inl rfl)) xc_int) (xix (xv 0 rfl (Or.inl rfl)) xc_int) (nomark _)) (xcmp (op_dEq hr.units) (xo2 op_dMod (xcallTy cl_int (by decide +kernel) B.int_ rfl (ac (xo2 op_dAdd (xix (xv 2 rfl (Or.inl rfl)) xc_int) (xix (xv 2 rfl (Or.inl rfl)) xc_int)) an)) xc_int) xc_int (nomark _)) (nomark _)) (z1 (zret xc_str)) zn)
    (zc (zset (i := 3) nd rfl (Or.inl rfl) (xif (tcmp (op_dEq hr.units) (xo2 op_dMod (xix (xv 2 rfl (Or.inl rfl)) xc_int) xc_int) xc_int (nomark _)) (xix (xv 0 rfl (Or.inl rfl)) xc_int) (xcall c__law_flip hr (by decide) rfl (ac (xix (xv 0 rfl (Or.inl rfl)) xc_int) (ac (xv 4 rfl (Or.inl rfl)) an)))))
    (zc (zset (i := 3) nd rfl (Or.inl rfl) (xif (tcmp (op_dEq hr.units) (xo2 op_dMod (xix (xv 2 rfl (Or.inl rfl)) xc_int) xc_int) xc_int (nomark _)) (xv 3 rfl (Or.inl rfl)) (xcall c__law_flip hr (by decide) rfl (ac (xv 3 rfl (Or.inl rfl)) (ac (xv 5 rfl (Or.inl rfl)) an)))))
    (z1 (zret (xif (tcmp (op_dEq hr.units) (xix (xv 1 rfl (Or.inl rfl)) xc_int) (xv 3 rfl (Or.inl rfl)) (nomark _)) xc_str xc_str))))))))))))

end
end Mv

/-! part G5 -/
set_option maxHeartbeats 4000000
namespace Mv
open PySem PySem.Spec L2
section
variable {P : Program} {w : World} {K : PySem.W.Frag} {mg : Str → Option Value} {base : Heap}

/-! ### sure_turned -/
def B_sure_turned : Ev → Option Out := (sqE (atE (.tup [2, 3]) (aE F_both_stands (consA (vE 0) (consA (vE 1) nilA))))
  (sqE (isE (toB (o2 dNe (aE F_bar_in (consA (vE 2) (consA (vE 3) nilA))) (cE (.str "")))) nvE ndE)
  (rtE (aE mkT (consA (vE 2) (consA (vE 3) nilA))))))
def F_sure_turned : List D → Option D := runF 2 4 B_sure_turned
theorem sc_sure_turned : FnScope ["stand", "goal", "own", "far"] ["stand", "goal"] (defScope (topS 42)) := ⟨rfl, rfl, rfl, by decide +kernel, rfl, by decide +kernel, by decide +kernel⟩
theorem cal_sure_turned (B : Bt mg) (F : Df K mg "sure_turned" (topS 42) ["stand", "goal"]) (c_both_stands : Cal P w K mg base 9 "both_stands" F_both_stands) (c_bar_in : Cal P w K mg base 3 "bar_in" F_bar_in)  : Cal P w K mg base 10 "sure_turned" F_sure_turned :=
  cal_D (N := ["stand", "goal", "own", "far"]) F sc_sure_turned fun f cdv A outer s H E hr => have nd := (sc_sure_turned).nd
    (zc (zasg (xcall c_both_stands hr (by decide) rfl (ac (xv 0 rfl (Or.inl rfl)) (ac (xv 1 rfl (Or.inl rfl)) an))) (gt rfl (gn1 (pg_name nd rfl (Or.inl rfl)) (gn1 (pg_name nd rfl (Or.inl rfl)) gn0))))
    (zc (zif (tcmp (op_dNe hr.units) (xcall c_bar_in hr (by decide) rfl (ac (xv 2 rfl (Or.inl rfl)) (ac (xv 3 rfl (Or.inl rfl)) an))) xc_str (nomark _)) znever zn)
    (z1 (zret (xtup (ac (xv 2 rfl (Or.inl rfl)) (ac (xv 3 rfl (Or.inl rfl)) an)))))))


/-! ### fewest_turns -/
def B_fewest_turns : Ev → Option Out := (sqE (atE (.tup [2, 3]) (aE F_sure_turned (consA (vE 0) (consA (vE 1) nilA))))
  (rtE (aE F_fewest_turned_in (consA (vE 2) (consA (vE 3) nilA)))))
def F_fewest_turns : List D → Option D := runF 2 4 B_fewest_turns
theorem sc_fewest_turns : FnScope ["stand", "goal", "own", "far"] ["stand", "goal"] (defScope (topS 44)) := ⟨rfl, rfl, rfl, by decide +kernel, rfl, by decide +kernel, by decide +kernel⟩
theorem cal_fewest_turns (B : Bt mg) (F : Df K mg "fewest_turns" (topS 44) ["stand", "goal"]) (c_sure_turned : Cal P w K mg base 10 "sure_turned" F_sure_turned) (c_fewest_turned_in : Cal P w K mg base 3 "fewest_turned_in" F_fewest_turned_in)  : Cal P w K mg base 11 "fewest_turns" F_fewest_turns :=
  cal_D (N := ["stand", "goal", "own", "far"]) F sc_fewest_turns fun f cdv A outer s H E hr => have nd := (sc_fewest_turns).nd
    (zc (zasg (xcall c_sure_turned hr (by decide) rfl (ac (xv 0 rfl (Or.inl rfl)) (ac (xv 1 rfl (Or.inl rfl)) an))) (gt rfl (gn1 (pg_name nd rfl (Or.inl rfl)) (gn1 (pg_name nd rfl (Or.inl rfl)) gn0))))
    (z1 (zret (xcall c_fewest_turned_in hr (by decide) rfl (ac (xv 2 rfl (Or.inl rfl)) (ac (xv 3 rfl (Or.inl rfl)) an))))))


/-! ### first_turns_in -/
def B_first_turns_in : Ev → Option Out := (sqE (atE (.tup [2, 3]) (aE mkT (consA (aE F_fewest_turned_in (consA (vE 0) (consA (vE 1) nilA))) (consA (comp2E (rngE (cE (.int 4))) (.one 5) [5, 6] (seqE (cE handsD)) (.one 6) [6] (aE mkT (consA (cE (.str "turn")) (consA (vE 5) (consA (vE 6) nilA))))) nilA))))
  (rtE (compE (seqE (vE 3)) (.one 4) ([4]) (toB (o2 dLt (aE F_fewest_turned_in (consA (aE F_moved_in (consA (vE 0) (consA (vE 4) nilA))) (consA (vE 1) nilA))) (vE 2))) (vE 4))))
def F_first_turns_in : List D → Option D := runF 2 7 B_first_turns_in
theorem sc_first_turns_in : FnScope ["stand", "goal", "few", "turns", "move", "corner", "hand"] ["stand", "goal"] (defScope (topS 45)) := ⟨rfl, rfl, rfl, by decide +kernel, rfl, by decide +kernel, by decide +kernel⟩
theorem cal_first_turns_in (B : Bt mg) (F : Df K mg "first_turns_in" (topS 45) ["stand", "goal"]) (c_fewest_turned_in : Cal P w K mg base 3 "fewest_turned_in" F_fewest_turned_in) (c_moved_in : Cal P w K mg base 4 "moved_in" F_moved_in) (c_HANDS : Gc K mg "HANDS" handsD) : Cal P w K mg base 5 "first_turns_in" F_first_turns_in :=
  cal_D (N := ["stand", "goal", "few", "turns", "move", "corner", "hand"]) F sc_first_turns_in fun f cdv A outer s H E hr => have nd := (sc_first_turns_in).nd
    (zc (zasg (xtup (ac (xcall c_fewest_turned_in hr (by decide) rfl (ac (xv 0 rfl (Or.inr (Or.inl rfl))) (ac (xv 1 rfl (Or.inr (Or.inl rfl))) an))) (ac (xlc2 (.one 5) (.one 6) [("corner", 5), ("hand", 6)] [6] (by decide) (by decide) (by decide) rfl nd (irange B.range_ rfl xc_int) (blkOk_by (N := ["stand", "goal", "few", "turns", "move", "corner", "hand"]) (sc := defScope (topS 45)) (by decide +kernel)) (fun _ _ _ _ _ => (g1 nd rfl (Or.inl rfl))) (fun _ _ _ _ _ => (iseq (xgl c_HANDS rfl))) (fun _ _ _ _ _ => (g1 nd rfl (Or.inl rfl))) (fun _ _ _ _ _ => (xtup (ac xc_str (ac (xv 5 rfl (Or.inl rfl)) (ac (xv 6 rfl (Or.inl rfl)) an)))))) an))) (gt rfl (gn1 (pg_name nd rfl (Or.inr rfl)) (gn1 (pg_name nd rfl (Or.inl rfl)) gn0))))
    (z1 (zret (xlc (.one 4) [("move", 4)] (by decide) rfl nd (iseq (xv 3 rfl (Or.inl rfl))) (blkOk_by (N := ["stand", "goal", "few", "turns", "move", "corner", "hand"]) (sc := defScope (topS 45)) (by decide +kernel)) (fun _ _ _ _ _ => (g1 nd rfl (Or.inl rfl))) (fun _ _ _ _ _ => (ts1 (tcmp op_dLt (xcall c_fewest_turned_in hr (by decide) rfl (ac (xcall c_moved_in hr (by decide) rfl (ac (xv 0 rfl (Or.inr (Or.inl rfl))) (ac (xv 4 rfl (Or.inl rfl)) an))) (ac (xv 1 rfl (Or.inr (Or.inl rfl))) an))) (xv 2 rfl (Or.inr (Or.inl rfl))) (nomark _)))) (fun _ _ _ _ _ => (xv 4 rfl (Or.inl rfl)))))))


/-! ### turn_plan -/
def B_turn_plan : Ev → Option Out := (sqE (atE (.tup [2, 3]) (aE F_sure_turned (consA (vE 0) (consA (vE 1) nilA))))
  (sqE (isE (toB (o2 dGt (aE F_fewest_turned_in (consA (vE 2) (consA (vE 3) nilA))) (cE (.int 2000)))) nvE ndE)
  (rtE (aE F_turn_plan_in (consA (vE 2) (consA (vE 3) nilA))))))
def F_turn_plan : List D → Option D := runF 2 4 B_turn_plan
theorem sc_turn_plan : FnScope ["stand", "goal", "own", "far"] ["stand", "goal"] (defScope (topS 50)) := ⟨rfl, rfl, rfl, by decide +kernel, rfl, by decide +kernel, by decide +kernel⟩
theorem cal_turn_plan (B : Bt mg) (F : Df K mg "turn_plan" (topS 50) ["stand", "goal"]) (c_sure_turned : Cal P w K mg base 10 "sure_turned" F_sure_turned) (c_fewest_turned_in : Cal P w K mg base 3 "fewest_turned_in" F_fewest_turned_in) (c_turn_plan_in : Cal P w K mg base 5 "turn_plan_in" F_turn_plan_in) (c_MOST_TURNED : Gc K mg "MOST_TURNED" (.int 2000)) : Cal P w K mg base 11 "turn_plan" F_turn_plan :=
  cal_D (N := ["stand", "goal", "own", "far"]) F sc_turn_plan fun f cdv A outer s H E hr => have nd := (sc_turn_plan).nd
    (zc (zasg (xcall c_sure_turned hr (by decide) rfl (ac (xv 0 rfl (Or.inl rfl)) (ac (xv 1 rfl (Or.inl rfl)) an))) (gt rfl (gn1 (pg_name nd rfl (Or.inl rfl)) (gn1 (pg_name nd rfl (Or.inl rfl)) gn0))))
    (zc (zif (tcmp op_dGt (xcall c_fewest_turned_in hr (by decide) rfl (ac (xv 2 rfl (Or.inl rfl)) (ac (xv 3 rfl (Or.inl rfl)) an))) (xgl c_MOST_TURNED rfl) (nomark _)) znever zn)
    (z1 (zret (xcall c_turn_plan_in hr (by decide) rfl (ac (xv 2 rfl (Or.inl rfl)) (ac (xv 3 rfl (Or.inl rfl)) an)))))))


/-! ### why_not_turned -/
def B_why_not_turned : Ev → Option Out := (sqE (atE (.tup [3, 4]) (aE F_both_stands (consA (vE 0) (consA (vE 1) nilA))))
  (sqE (asE 2 (aE F_bar_in (consA (vE 3) (consA (vE 4) nilA))))
  (sqE (isE (toB (o2 dEq (vE 2) (cE (.str "")))) nvE ndE)
  (rtE (vE 2)))))
def F_why_not_turned : List D → Option D := runF 2 5 B_why_not_turned
theorem sc_why_not_turned : FnScope ["stand", "goal", "found", "own", "far"] ["stand", "goal"] (defScope (topS 37)) := ⟨rfl, rfl, rfl, by decide +kernel, rfl, by decide +kernel, by decide +kernel⟩
theorem cal_why_not_turned (B : Bt mg) (F : Df K mg "why_not_turned" (topS 37) ["stand", "goal"]) (c_both_stands : Cal P w K mg base 9 "both_stands" F_both_stands) (c_bar_in : Cal P w K mg base 3 "bar_in" F_bar_in)  : Cal P w K mg base 10 "why_not_turned" F_why_not_turned :=
  cal_D (N := ["stand", "goal", "found", "own", "far"]) F sc_why_not_turned fun f cdv A outer s H E hr => have nd := (sc_why_not_turned).nd
    (zc (zasg (xcall c_both_stands hr (by decide) rfl (ac (xv 0 rfl (Or.inl rfl)) (ac (xv 1 rfl (Or.inl rfl)) an))) (gt rfl (gn1 (pg_name nd rfl (Or.inl rfl)) (gn1 (pg_name nd rfl (Or.inl rfl)) gn0))))
    (zc (zset (i := 2) nd rfl (Or.inl rfl) (xcall c_bar_in hr (by decide) rfl (ac (xv 3 rfl (Or.inl rfl)) (ac (xv 4 rfl (Or.inl rfl)) an))))
    (zc (zif (tcmp (op_dEq hr.units) (xv 2 rfl (Or.inl rfl)) xc_str (nomark _)) znever zn)
    (z1 (zret (xv 2 rfl (Or.inl rfl)))))))

end
end Mv

/-! part E1 -/
set_option maxHeartbeats 4000000
namespace Mv
open PySem PySem.Spec L2

/-! ### what raises CanNot -/
def bmV : List Value := [.type "ValueError", .type "Exception", .type "BaseException", .type "object"]
/-- the class CanNot at C -/
structure Cn (K : PySem.W.Frag) (mg : Str → Option Value) (C : Addr) : Prop where
  g : mg "CanNot" = some (.ref C)
  x : PySem.W.excIn K C bmV "ValueError.__new__" = true
  k : PySem.W.keepIn K (.ref C) = true
  b : PySem.W.subIn K (.ref C) (.type "BaseException") = some true
  t : PySem.W.typeIn K (.ref C) = some (.type "type")
  e : PySem.W.exmOne K (.ref C) (.ref C) = some true
  c : ExcC K C
  v : PySem.W.kitOne K (.ref C) (.type "ValueError") = some true
section
variable {X : Cx} {C : Addr} {bmB : List Value} {B newId initId : String}
/-- X() -/
theorem pmk_own0 {x : Str} {p pos : Pos} (F : ExcBaseFacts B newId initId bmB) (q : PySem.W.excIn X.K C bmB newId = true) (gC : X.mg x = some (.ref C)) (kC : PySem.W.keepIn X.K (.ref C) = true) (r : Raises X (.ref C)) (hg : Gl X x)
    (hdb : (x == ("__debug__" : Str)) = false := by decide) : PMk X (.Call (.Name x p) [] [] pos) (fun _ H Q => Q (.ref C) none H) := by
  intro pins s σ H Q I h
  refine wpAny_Call_Name_kw (ld_glob I hg gC ?_ hdb)
  refine PySem.W.callWith_K0 I.kIn kC ?_
  show wpAny _ _ (call (.ref C) []) _ _ _
  obtain ⟨bm, N, nm, qn, bs, hdct, sn, sub, ab, col, dd, k0, k1, k2, k3, k5, mN, hC, hN, hni, T⟩ := exc_obj I.kIn q
  refine wpAny_call_exc_subT F T hC hN hni (fun h' e hm => ?_) (by show 0 ≤ sizeLine; exact Nat.zero_le _)
  exact mk_of I hm r h (I.hok.gone hm.new)
end
def spX (K : PySem.W.Frag) (C : Addr) (R : List D → Bool) : Sp := fun vs H _ E => ∃ G ds, Same G H ∧ RpAll K G vs ds ∧ ds.length = 2 ∧ R ds = true ∧ ∀ G' H', Grow G H G' H' → E (.ref C) none H'
structure CalX (P : Program) (w : World) (K : PySem.W.Frag) (mg : Str → Option Value) (base : Heap) (C : Addr) (k : Nat) (x : Str) (R : List D → Bool) : Prop where
  ex : ∃ (f : Addr) (fd : FuncData) (ps : List Str), FnOk P w K mg base (L2.CX P w) k f fd ps (spX K C R) ∧ mg x = some (.ref f) ∧ PySem.W.keepIn K (.ref f) = true ∧ Binds K fd ps []
theorem spX_len {K : PySem.W.Frag} {C : Addr} {R : List D → Bool} : ∀ vs H Q E, spX K C R vs H Q E → vs.length = 2 := fun vs H Q E h => by
  obtain ⟨G, ds, _, r, h2, _⟩ := h
  rw [r.length]; exact h2
def R_sure : List D → Bool
  | [a, b] => (match F_both_stands [a, b] with
    | some (.tuple [x, y]) => (match F_bar_in [x, y] with
      | some z => (match dNe z (.str "") with
        | some (.bool true) => true
        | _ => false)
      | none => false)
    | _ => false)
  | _ => false
def R_why : List D → Bool
  | [a, b] => (match F_both_stands [a, b] with
    | some (.tuple [x, y]) => (match F_bar_in [x, y] with
      | some z => (match dEq z (.str "") with
        | some (.bool true) => true
        | _ => false)
      | none => false)
    | _ => false)
  | _ => false
theorem R_sure_some {ds : List D} (h : R_sure ds = true) : ∃ a b x y z, ds = [a, b] ∧ F_both_stands [a, b] = some (.tuple [x, y]) ∧ F_bar_in [x, y] = some z ∧ dNe z (.str "") = some (.bool true) := by
  unfold R_sure at h
  split at h
  · next a b =>
    split at h
    · next x y e1 =>
      split at h
      · next z e2 =>
        split at h
        · next e3 => exact ⟨a, b, x, y, z, rfl, e1, e2, e3⟩
        · cases h
      · cases h
    · cases h
  · cases h
theorem R_why_some {ds : List D} (h : R_why ds = true) : ∃ a b x y z, ds = [a, b] ∧ F_both_stands [a, b] = some (.tuple [x, y]) ∧ F_bar_in [x, y] = some z ∧ dEq z (.str "") = some (.bool true) := by
  unfold R_why at h
  split at h
  · next a b =>
    split at h
    · next x y e1 =>
      split at h
      · next z e2 =>
        split at h
        · next e3 => exact ⟨a, b, x, y, z, rfl, e1, e2, e3⟩
        · cases h
      · cases h
    · cases h
  · cases h
section
variable {P : Program} {w : World} {K : PySem.W.Frag} {mg : Str → Option Value} {base : Heap} {C : Addr}
theorem calX_sure_turned (T : Cn K mg C) (F : Df K mg "sure_turned" (topS 42) ["stand", "goal"]) (c_both_stands : Cal P w K mg base 9 "both_stands" F_both_stands) (c_bar_in : Cal P w K mg base 3 "bar_in" F_bar_in) : CalX P w K mg base C 10 "sure_turned" R_sure := by
  obtain ⟨f, fd, F, hm, hbi⟩ := F.ex
  refine ⟨f, fd, _, ?_, hm, F.kp, hbi⟩
  refine F.okX sc_sure_turned spX_len (fun cdv A outer s H vs Q E hr h => ?_)
  have nd := (sc_sure_turned).nd
  refine ⟨_, pss_cons (zasg (xcall c_both_stands hr (by decide) rfl (ac (xv 0 rfl (Or.inl rfl)) (ac (xv 1 rfl (Or.inl rfl)) an))) (gt rfl (gn1 (pg_name (i := 2) nd rfl (Or.inl rfl)) (gn1 (pg_name (i := 3) nd rfl (Or.inl rfl)) gn0))))
    (pss_cons (ps_if (tcmp (op_dNe hr.units) (xcall c_bar_in hr (by decide) rfl (ac (xv 2 rfl (Or.inl rfl)) (ac (xv 3 rfl (Or.inl rfl)) an))) xc_str (nomark _))
      (pss_one (ps_raise rfl (takes_of rfl rfl rfl rfl) (pmk_own0 PySem.F.excBase_ValueError T.x T.g T.k (raises_own T.b T.t) rfl))) pss_never) pss_never), ?_⟩
  obtain ⟨G, ds, e, r, _, hR, k⟩ := h
  obtain ⟨a, b, x, y, z, rfl, e1, e2, e3⟩ := R_sure_some hR
  have rs0 : Rs K G (L2.start ["stand", "goal", "own", "far"] vs) (padE [a, b] 4) := rs_start r (by simp)
  refine ⟨G, _, .nx [some a, some b, some x, some y], e, rs0, ?_, fun σ' G1 H1 g1 r1 => ?_⟩
  · show (match F_both_stands [a, b] with | some d => (match tgE (.tup [2, 3]) d (padE [a, b] 4) with | some ρ' => some (Out.nx ρ') | none => none) | none => none) = _
    rw [e1]; rfl
  · refine ⟨G1, _, true, g1.i, r1, ?_, fun G2 H2 g2 => iteT (k G2 H2 (g1.trans g2))⟩
    show (match (match F_bar_in [x, y] with | some d => dNe d (.str "") | none => none) with | some (.bool b) => some b | _ => none) = _
    rw [e2]
    show (match dNe z (.str "") with | some (.bool b) => some b | _ => none) = _
    rw [e3]
theorem calX_why_not_turned (T : Cn K mg C) (F : Df K mg "why_not_turned" (topS 37) ["stand", "goal"]) (c_both_stands : Cal P w K mg base 9 "both_stands" F_both_stands) (c_bar_in : Cal P w K mg base 3 "bar_in" F_bar_in) : CalX P w K mg base C 10 "why_not_turned" R_why := by
  obtain ⟨f, fd, F, hm, hbi⟩ := F.ex
  refine ⟨f, fd, _, ?_, hm, F.kp, hbi⟩
  refine F.okX sc_why_not_turned spX_len (fun cdv A outer s H vs Q E hr h => ?_)
  have nd := (sc_why_not_turned).nd
  refine ⟨_, pss_cons (zasg (xcall c_both_stands hr (by decide) rfl (ac (xv 0 rfl (Or.inl rfl)) (ac (xv 1 rfl (Or.inl rfl)) an))) (gt rfl (gn1 (pg_name (i := 3) nd rfl (Or.inl rfl)) (gn1 (pg_name (i := 4) nd rfl (Or.inl rfl)) gn0))))
    (pss_cons (zset (i := 2) nd rfl (Or.inl rfl) (xcall c_bar_in hr (by decide) rfl (ac (xv 3 rfl (Or.inl rfl)) (ac (xv 4 rfl (Or.inl rfl)) an))))
    (pss_cons (ps_if (tcmp (op_dEq hr.units) (xv 2 rfl (Or.inl rfl)) xc_str (nomark _))
      (pss_one (ps_raise rfl (takes_of rfl rfl rfl rfl) (pmk_own0 PySem.F.excBase_ValueError T.x T.g T.k (raises_own T.b T.t) rfl))) pss_never) pss_never)), ?_⟩
  obtain ⟨G, ds, e, r, _, hR, k⟩ := h
  obtain ⟨a, b, x, y, z, rfl, e1, e2, e3⟩ := R_why_some hR
  have rs0 : Rs K G (L2.start ["stand", "goal", "found", "own", "far"] vs) (padE [a, b] 5) := rs_start r (by simp)
  refine ⟨G, _, .nx [some a, some b, none, some x, some y], e, rs0, ?_, fun σ' G1 H1 g1 r1 => ?_⟩
  · show (match F_both_stands [a, b] with | some d => (match tgE (.tup [3, 4]) d (padE [a, b] 5) with | some ρ' => some (Out.nx ρ') | none => none) | none => none) = _
    rw [e1]; rfl
  · refine ⟨G1, _, .nx [some a, some b, some z, some x, some y], g1.i, r1, ?_, fun σ2 G2 H2 g2 r2 => ?_⟩
    · show (match F_bar_in [x, y] with | some d => some (Out.nx (stE [some a, some b, none, some x, some y] 2 (some d))) | none => none) = _
      rw [e2]; rfl
    · refine ⟨G2, _, true, g2.i, r2, ?_, fun G3 H3 g3 => iteT (k G3 H3 (g1.trans (g2.trans g3)))⟩
      show (match dEq z (.str "") with | some (.bool b) => some b | _ => none) = _
      rw [e3]
/-- the first line, which never ends -/
theorem x_first {X : Cx} {t : TA} {sp : Sp} {W : WX} {g : TG} {rest : TS} {De : Ends} {σ : L2.St} {G H : Hp} {ρ : Ev} {ds : List D} {R : List D → Bool} {h : Ev → Option (List D)} (et : t = aD K h) (es : sp = spX K C R) (e : Same G H) (r : Rs K G σ ρ) (hh : h ρ = some ds) (h2 : ds.length = 2) (hR : R ds = true) (k : ∀ G' H', Grow G H G' H' → W (.ref C) none σ H') :
    tSeq (tAsg (tCallS sp (WE W) t) g) rest De σ H := by
  subst et es
  exact ⟨G, ρ, ds, e, r, hh, fun vs G1 H1 g1 r1 => ⟨G1, ds, g1.i, r1, h2, hR, fun G' H' g => k G' H' (g1.trans g)⟩⟩
theorem calX_fewest_turns (F : Df K mg "fewest_turns" (topS 44) ["stand", "goal"]) (c : CalX P w K mg base C 10 "sure_turned" R_sure) : CalX P w K mg base C 11 "fewest_turns" R_sure := by
  obtain ⟨f, fd, F, hm, hbi⟩ := F.ex
  obtain ⟨f1, fd1, ps1, F1, hm1, kp1, b1⟩ := c.ex
  refine ⟨f, fd, _, ?_, hm, F.kp, hbi⟩
  refine F.okX sc_fewest_turns spX_len (fun cdv A outer s H vs Q E hr h => ?_)
  have nd := (sc_fewest_turns).nd
  refine ⟨_, pss_cons (ps_asg (pe_callS F1 hr rfl hm1 kp1 b1 (fun σ => passAt (takes_of rfl rfl rfl rfl) σ) (ac (xv 0 rfl (Or.inl rfl)) (ac (xv 1 rfl (Or.inl rfl)) an))) (gt rfl (gn1 (pg_name (i := 2) nd rfl (Or.inl rfl)) (gn1 (pg_name (i := 3) nd rfl (Or.inl rfl)) gn0)))) pss_never, ?_⟩
  obtain ⟨G, ds, e, r, _, hR, k⟩ := h
  obtain ⟨a, b, x, y, z, rfl, e1, e2, e3⟩ := R_sure_some hR
  have rs0 : Rs K G (L2.start ["stand", "goal", "own", "far"] vs) (padE [a, b] 4) := rs_start r (by simp)
  exact x_first (X := cxOf (L2.CX P w) P w K mg base ["stand", "goal", "own", "far"] "fewest_turns" (defScope (topS 44)) f cdv A outer s H E) rfl rfl e rs0 (ds := [a, b]) rfl rfl hR k
theorem calX_turn_plan (F : Df K mg "turn_plan" (topS 50) ["stand", "goal"]) (c : CalX P w K mg base C 10 "sure_turned" R_sure) : CalX P w K mg base C 11 "turn_plan" R_sure := by
  obtain ⟨f, fd, F, hm, hbi⟩ := F.ex
  obtain ⟨f1, fd1, ps1, F1, hm1, kp1, b1⟩ := c.ex
  refine ⟨f, fd, _, ?_, hm, F.kp, hbi⟩
  refine F.okX sc_turn_plan spX_len (fun cdv A outer s H vs Q E hr h => ?_)
  have nd := (sc_turn_plan).nd
  refine ⟨_, pss_cons (ps_asg (pe_callS F1 hr rfl hm1 kp1 b1 (fun σ => passAt (takes_of rfl rfl rfl rfl) σ) (ac (xv 0 rfl (Or.inl rfl)) (ac (xv 1 rfl (Or.inl rfl)) an))) (gt rfl (gn1 (pg_name (i := 2) nd rfl (Or.inl rfl)) (gn1 (pg_name (i := 3) nd rfl (Or.inl rfl)) gn0)))) pss_never, ?_⟩
  obtain ⟨G, ds, e, r, _, hR, k⟩ := h
  obtain ⟨a, b, x, y, z, rfl, e1, e2, e3⟩ := R_sure_some hR
  have rs0 : Rs K G (L2.start ["stand", "goal", "own", "far"] vs) (padE [a, b] 4) := rs_start r (by simp)
  exact x_first (X := cxOf (L2.CX P w) P w K mg base ["stand", "goal", "own", "far"] "turn_plan" (defScope (topS 50)) f cdv A outer s H E) rfl rfl e rs0 (ds := [a, b]) rfl rfl hR k
theorem sc_first_turnsX : FnScope ["stand", "goal", "own", "far"] ["stand", "goal"] (defScope (topS 46)) := ⟨rfl, rfl, rfl, by decide +kernel, rfl, by decide +kernel, by decide +kernel⟩
theorem calX_first_turns (F : Df K mg "first_turns" (topS 46) ["stand", "goal"]) (c : CalX P w K mg base C 10 "sure_turned" R_sure) : CalX P w K mg base C 11 "first_turns" R_sure := by
  obtain ⟨f, fd, F, hm, hbi⟩ := F.ex
  obtain ⟨f1, fd1, ps1, F1, hm1, kp1, b1⟩ := c.ex
  refine ⟨f, fd, _, ?_, hm, F.kp, hbi⟩
  refine F.okX sc_first_turnsX spX_len (fun cdv A outer s H vs Q E hr h => ?_)
  have nd := (sc_first_turnsX).nd
  refine ⟨_, pss_cons (ps_asg (pe_callS F1 hr rfl hm1 kp1 b1 (fun σ => passAt (takes_of rfl rfl rfl rfl) σ) (ac (xv 0 rfl (Or.inl rfl)) (ac (xv 1 rfl (Or.inl rfl)) an))) (gt rfl (gn1 (pg_name (i := 2) nd rfl (Or.inl rfl)) (gn1 (pg_name (i := 3) nd rfl (Or.inl rfl)) gn0)))) pss_never, ?_⟩
  obtain ⟨G, ds, e, r, _, hR, k⟩ := h
  obtain ⟨a, b, x, y, z, rfl, e1, e2, e3⟩ := R_sure_some hR
  have rs0 : Rs K G (L2.start ["stand", "goal", "own", "far"] vs) (padE [a, b] 4) := rs_start r (by simp)
  exact x_first (X := cxOf (L2.CX P w) P w K mg base ["stand", "goal", "own", "far"] "first_turns" (defScope (topS 46)) f cdv A outer s H E) rfl rfl e rs0 (ds := [a, b]) rfl rfl hR k
end
end Mv

/-! part H1 -/
set_option maxHeartbeats 4000000
namespace Mv
open PySem PySem.Spec PyProof.Rows L2
/-! ### the head's facts -/
def dfn (x : Str) (i : Nat) : He.DefD := ⟨(x, none), x, x, defArgs (topS i), defBody (topS i), defScope (topS i), [], []⟩
def fns0 : List He.DefD := [dfn "is_number" 5, dfn "is_within" 6, dfn "is_long" 7, dfn "more_at" 18, dfn "flipped" 19, dfn "tipped_in" 20, dfn "turned_in" 21, dfn "moved_in" 22, dfn "tupled" 8, dfn "are_numbers" 10, dfn "is_shape" 13, dfn "is_stand" 15, dfn "sure_stand" 16, dfn "is_move" 17, dfn "is_row_in" 24, dfn "behind_in" 25, dfn "both_stands" 29, dfn "twofold_at" 30, dfn "has_slants" 31, dfn "slants_in" 32]
def fns1 : List He.DefD := [dfn "are_paired" 33, dfn "stand_slanted" 34, dfn "bar_in" 35, dfn "can_turn_to" 36, dfn "east_north" 38, dfn "corner_at" 39, dfn "turn_by" 40, dfn "turns_by_slants" 41, dfn "fewest_turned_in" 43, dfn "ones_for" 47, dfn "turns_told" 48, dfn "turn_plan_in" 49, dfn "are_turns" 51, dfn "is_turn_plan_in" 52, dfn "is_turn_plan" 53, dfn "_law_lists" 59, dfn "_law_same" 60, dfn "_law_home" 61, dfn "_law_poses" 62, dfn "_law_plus" 63]
def fns2 : List He.DefD := [dfn "_law_flip" 64, dfn "_law_tip" 65, dfn "_law_turn" 66, dfn "_law_step" 67, dfn "_law_behind" 68, dfn "_law_tips" 69, dfn "_law_turns" 70, dfn "_law_lean" 72, dfn "_law_word" 77, dfn "sure_turned" 42, dfn "fewest_turns" 44, dfn "first_turns_in" 45, dfn "turn_plan" 50, dfn "why_not_turned" 37, dfn "_law_levels" 73, dfn "_law_meet" 74, dfn "first_turns" 46, dfn "set_of" 9, dfn "_law_heard" 78, dfn "_law_by_hand_right" 79]
def fns3 : List He.DefD := [dfn "_law_plan_right" 80, dfn "_law_take" 56, dfn "_law_of" 58, dfn "_law_walk" 71, dfn "_law_somewhere" 75, dfn "_law_bent_spot" 76, dfn "_law_right" 81, dfn "_law_box" 55, dfn "_law_cells" 57, dfn "law" 82]
def fns : List He.DefD := fns0 ++ fns1 ++ fns2 ++ fns3
def fas0 : List He.Fa := [.glo "is_number", .glo "is_within", .glo "is_long", .glo "more_at", .glo "flipped", .glo "tipped_in", .glo "turned_in", .glo "moved_in", .glo "tupled", .glo "are_numbers", .glo "is_shape", .glo "is_stand", .glo "sure_stand", .glo "is_move", .glo "is_row_in", .glo "behind_in", .glo "both_stands", .glo "twofold_at", .glo "has_slants", .glo "slants_in"]
def fas1 : List He.Fa := [.glo "are_paired", .glo "stand_slanted", .glo "bar_in", .glo "can_turn_to", .glo "east_north", .glo "corner_at", .glo "turn_by", .glo "turns_by_slants", .glo "fewest_turned_in", .glo "ones_for", .glo "turns_told", .glo "turn_plan_in", .glo "are_turns", .glo "is_turn_plan_in", .glo "is_turn_plan", .glo "_law_lists", .glo "_law_same", .glo "_law_home", .glo "_law_poses", .glo "_law_plus"]
def fas2 : List He.Fa := [.glo "_law_flip", .glo "_law_tip", .glo "_law_turn", .glo "_law_step", .glo "_law_behind", .glo "_law_tips", .glo "_law_turns", .glo "_law_lean", .glo "_law_word", .glo "sure_turned", .glo "fewest_turns", .glo "first_turns_in", .glo "turn_plan", .glo "why_not_turned", .glo "_law_levels", .glo "_law_meet", .glo "first_turns", .glo "set_of", .glo "_law_heard", .glo "_law_by_hand_right"]
def fas3 : List He.Fa := [.glo "_law_plan_right", .glo "_law_take", .glo "_law_of", .glo "_law_walk", .glo "_law_somewhere", .glo "_law_bent_spot", .glo "_law_right", .glo "_law_box", .glo "_law_cells", .glo "law", .glo "CanNot", .free "isinstance", .free "int", .free "bool", .free "str", .free "list", .free "tuple", .free "len", .free "all", .free "abs"]
def fas4 : List He.Fa := [.free "max", .free "min", .free "range", .free "zip", .free "enumerate", .free "sorted", .free "set", .free "ValueError"]
def fas : List He.Fa := fas0 ++ fas1 ++ fas2 ++ fas3 ++ fas4
def loose0 : List Str := ["CanNot", "TooMany", "Unfit", "is_number", "is_within", "is_long", "tupled", "set_of", "are_numbers", "RING", "is_shape", "is_stand", "sure_stand", "is_move", "more_at", "flipped", "tipped_in", "turned_in", "moved_in", "is_row_in"]
def loose1 : List Str := ["behind_in", "MOST_TURNED", "HANDS", "both_stands", "twofold_at", "has_slants", "slants_in", "are_paired", "stand_slanted", "bar_in", "can_turn_to", "why_not_turned", "east_north", "corner_at", "turn_by", "turns_by_slants", "sure_turned", "fewest_turned_in", "fewest_turns", "first_turns_in"]
def loose2 : List Str := ["first_turns", "ones_for", "turns_told", "turn_plan_in", "turn_plan", "are_turns", "is_turn_plan_in", "is_turn_plan", "_law_box", "_law_take", "_law_cells", "_law_of", "_law_lists", "_law_same", "_law_home", "_law_poses", "_law_plus", "_law_flip", "_law_tip", "_law_turn"]
def loose3 : List Str := ["_law_step", "_law_behind", "_law_tips", "_law_turns", "_law_walk", "_law_lean", "_law_levels", "_law_meet", "_law_somewhere", "_law_bent_spot", "_law_word", "_law_heard", "_law_by_hand_right", "_law_plan_right", "_law_right"]
def loose : List Str := loose0 ++ loose1 ++ loose2 ++ loose3
/-! constants -/
def all2 (p : Value → D → Bool) : List Value → List D → Bool
  | [], [] => true
  | u :: us, d :: ds => p u d && all2 p us ds
  | _, _ => false
def rpB (K : PySem.W.Frag) : Nat → Value → D → Bool
  | 0, _, _ => false
  | _ + 1, .int i _, .int j => decide (i = j)
  | n + 1, .ref a, .tuple ds => (match K.lookup a with
    | some ⟨.type c, _, .seq its _, _⟩ => decide (c = "tuple") && (decide (its.size ≤ sizeLine) && all2 (rpB K n) its.toList ds)
    | _ => false)
  | _, _, _ => false
theorem all2_ok {K : PySem.W.Frag} {p : Value → D → Bool} (hp : ∀ u d, p u d = true → ∃ v, RelV v u ∧ ∀ G, Rp K G v d) : ∀ us ds, all2 p us ds = true → ∃ vs, Vals vs us ∧ ∀ G, RpAll K G vs ds
  | [], [], _ => ⟨[], .nil, fun _ => .nil⟩
  | u :: us, d :: ds, h => by
    obtain ⟨h1, h2⟩ := Bool.and_eq_true_iff.mp (show (p u d && all2 p us ds) = true from h)
    obtain ⟨v, r, q⟩ := hp u d h1
    obtain ⟨vs, rs, qs⟩ := all2_ok hp us ds h2
    exact ⟨v :: vs, .cons r rs, fun G => .cons (q G) (qs G)⟩
  | [], _ :: _, h => by cases h
  | _ :: _, [], h => by cases h
theorem rpB_ok {K : PySem.W.Frag} : ∀ (n : Nat) (u : Value) (d : D), rpB K n u d = true → ∃ v, RelV v u ∧ ∀ G, Rp K G v d
  | 0, u, d, h => by
    unfold rpB at h
    cases h
  | n + 1, u, d, h => by
    unfold rpB at h
    split at h
    · next e => cases e
    · next i t j _ =>
      have e : i = j := of_decide_eq_true h
      subst e
      exact ⟨.int i, ⟨t, rfl⟩, fun _ => .int i⟩
    · next n' a ds e =>
      cases e
      split at h
      · next c od its k sl q =>
        obtain ⟨h1, h2⟩ := Bool.and_eq_true_iff.mp h
        obtain ⟨h2, h3⟩ := Bool.and_eq_true_iff.mp h2
        obtain ⟨vs, r, z⟩ := all2_ok (rpB_ok n) its.toList ds h3
        exact ⟨.ref a, rfl, fun G => .tup (.inr ⟨_, its, k, q, congrArg Value.type (of_decide_eq_true h1), rfl, of_decide_eq_true h2, r⟩) (z G)⟩
      · cases h
    · cases h
def gcB (K : PySem.W.Frag) (x : Str) (d : D) : Bool := match PySem.W.nsIn K mainGlobals x with
  | some (some u) => rpB K 3 u d
  | _ => false
section
variable {K : PySem.W.Frag} {h : Heap} {mg : Str → Option Value}
theorem gcB_ok (X : K.In h) (G : h.Ns mainGlobals mg) {x : Str} {d : D} (c : gcB K x d = true) : Gc K mg x d := by
  unfold gcB at c
  split at c
  · next u e =>
    obtain ⟨v, r, z⟩ := rpB_ok 3 u d c
    exact ⟨v, u, PySem.W.mg_of X G e, r, z⟩
  · cases c
end
/-! the class CanNot -/
def cnB (K : PySem.W.Frag) (C : Addr) : Bool :=
  PySem.W.excIn K C bmV "ValueError.__new__" && (PySem.W.keepIn K (.ref C) && (decide (PySem.W.subIn K (.ref C) (.type "BaseException") = some true) && (decide (PySem.W.typeIn K (.ref C) = some (.type "type")) &&
  (decide (PySem.W.exmOne K (.ref C) (.ref C) = some true) && (decide (PySem.W.kitOne K (.ref C) (.type "ValueError") = some true) &&
  (He.eqO (PySem.W.findIn K (.ref C) "__getattribute__") (some (some (.builtin "BaseException.__getattribute__"))) && (He.eqO (PySem.W.findIn K (.ref C) "__getattr__") (some none) && (PySem.W.hasDictIn K C &&
  (He.eqO (PySem.W.findIn K (.ref C) "__class__") (some (some (.builtin "object.__class__"))) && (He.eqO (PySem.W.specialIn K (.builtin "object.__class__") "__get__") (some (some (.builtin "getset_descriptor.__get__"))) &&
  (decide (PySem.W.takesIn K (.builtin "object.__class__") = some true) && decide (PySem.W.mroIn K C (.type "object") = some true))))))))))))
section
variable {K : PySem.W.Frag} {h : Heap} {mg : Str → Option Value}
theorem cnB_ok {C : Addr} (g : mg "CanNot" = some (.ref C)) (c : cnB K C = true) : Cn K mg C := by
  obtain ⟨c1, c⟩ := Bool.and_eq_true_iff.mp c
  obtain ⟨c2, c⟩ := Bool.and_eq_true_iff.mp c
  obtain ⟨c3, c⟩ := Bool.and_eq_true_iff.mp c
  obtain ⟨c4, c⟩ := Bool.and_eq_true_iff.mp c
  obtain ⟨c5, c⟩ := Bool.and_eq_true_iff.mp c
  obtain ⟨c6, c⟩ := Bool.and_eq_true_iff.mp c
  obtain ⟨c7, c⟩ := Bool.and_eq_true_iff.mp c
  obtain ⟨c8, c⟩ := Bool.and_eq_true_iff.mp c
  obtain ⟨c9, c⟩ := Bool.and_eq_true_iff.mp c
  obtain ⟨c10, c⟩ := Bool.and_eq_true_iff.mp c
  obtain ⟨c11, c⟩ := Bool.and_eq_true_iff.mp c
  obtain ⟨c12, c13⟩ := Bool.and_eq_true_iff.mp c
  exact ⟨g, c1, c2, of_decide_eq_true c3, of_decide_eq_true c4, of_decide_eq_true c5,
    ⟨He.eqO_ok c7, He.eqO_ok c8, of_decide_eq_true c3, c9, He.eqO_ok c10, He.eqO_ok c11, of_decide_eq_true c12, of_decide_eq_true c13⟩, of_decide_eq_true c6⟩
/-! defs -/
theorem df_of {x : Str} {i : Nat} {ps : List Str} (X : K.In h) (G : h.Ns mainGlobals mg) (g : (He.Fa.glo x).ok K = true)
    (F : ∃ fd, FunD K x x (defArgs (topS i)) (defBody (topS i)) (defScope (topS i)) [] [] (He.ga K x) fd)
    (hb : ∀ (kV doc pm : Value) (an : Option Addr) (cdv ct : Value) (us : List Value), us.length = ps.length → bindArgs (PySem.W.fnOf x x (defArgs (topS i)) (defBody (topS i)) (defScope (topS i)) .none kV doc pm an cdv ct) ⟨us, []⟩ = pure (ps.zip us)) :
    Df K mg x (topS i) ps := by
  obtain ⟨fd, F⟩ := F
  exact ⟨He.ga K x, fd, He5.fun_of F, He.glo_ok X G g, F.bindsN hb⟩
end
/-! the hook -/
def exB (K : PySem.W.Frag) : Bool := cnB K (He.ga K "CanNot") && (gcB K "HANDS" handsD && (gcB K "MOST_TURNED" (.int 2000) && gcB K "RING" ringD))
def asM (g : Addr → Option Obj) : List Addr := He.asD g 3
def obsM (g : Addr → Option Obj) : He.AlD × Bool := (He.obsD fas fns (He.frG g (asM g)), exB (He.frG g (asM g)))
def hookM : PySem.W.Hook where
  α := He.AlD × Bool
  obs := fun s => obsM s.heap.get?
  val := fun _ => (He.valD fns, true)
  says := fun _ h => ∃ K : PySem.W.Frag, K.In h ∧ He.SaysD fas fns K ∧ exB K = true
  of := fun _ _ e => ⟨_, He.frG_in, congrArg Prod.fst e, congrArg Prod.snd e⟩
  keeps := fun _ _ _ ⟨K, hK, c⟩ k => ⟨K, PySem.W.Frag.In.keeps hK k, c⟩
def ob (s : PySem.W.SharedT) : He.AlD × Bool := obsM (HandSHeadRun.getT s)
theorem ob_eq (s : PySem.W.SharedT) : ob s = hookM.obs s.abs := by
  have e : HandSHeadRun.getT s = s.abs.heap.get? := funext (HandSHeadRun.getT_eq s)
  show obsM (HandSHeadRun.getT s) = obsM s.abs.heap.get?
  rw [e]
abbrev R : PySem.W.OpenRow := PySem.W.OpenLaw.row PySem.Challenge.rw_movedchest_k25_whole_fewest_turns
end Mv

/-! part H2 -/
namespace Mv
open PySem PySem.Spec PyProof.Rows L2
/-! ### the head's run -/
abbrev qv : Program := PySem.W.view R.prog [82]
abbrev stepsM : Nat := 20000
set_option maxHeartbeats 0 in
theorem run_head (w : World) : HandSHeadRun.RunEq R qv hookM ob stepsM loose w := by
  intro os
  kernel_rfl
end Mv

/-! part Dk1 -/
set_option maxHeartbeats 4000000
namespace Mv
open PySem PySem.Spec L2

/-! ### dicts whose keys are nested tuples -/
def keysL (f : D → Option NestedKey) : List D → Option (List NestedKey)
  | [] => some []
  | d :: ds => (match f d with
    | some k => (match keysL f ds with
      | some ks => some (k :: ks)
      | none => none)
    | none => none)
def keyN : Nat → D → Option NestedKey
  | 0, _ => none
  | _ + 1, .none => some .none
  | _ + 1, .bool b => some (.num (if b = true then 1 else 0))
  | _ + 1, .int i => some (.num i)
  | _ + 1, .str x => some (.text x)
  | n + 1, .tuple xs => (match keysL (keyN n) xs with
    | some ks => some (.tup ks)
    | none => none)
  | _ + 1, .list _ => none
  | _ + 1, .dict _ => none
theorem key_is {X : Cx} {pins : List (Addr × Obj)} {σ : L2.St} {H : Hp} {s : Shared} (I : Inv X pins σ H s) : ∀ (n : Nat) (d : D) (k : NestedKey) (v : V) (u : Value), keyN n d = some k → Rp X.K H v d → RelV v u → NestedIs s.heap k u ∧ k.depth ≤ n
  | 0, _, _, _, _, h, _, _ => by cases h
  | n + 1, d, k, v, u, h, r, ru => by
    cases r with
    | non => cases h; cases ru; exact ⟨.none, Nat.zero_le _⟩
    | bl b => cases h; cases ru; exact ⟨.bool rfl, Nat.zero_le _⟩
    | int i => cases h; obtain ⟨t, rfl⟩ := ru; exact ⟨.int _ _, Nat.zero_le _⟩
    | str x => cases h; obtain ⟨t, rfl⟩ := ru; exact ⟨.text _ _, Nat.zero_le _⟩
    | lst _ _ => cases h
    | @tup a xs ds h1 h2 =>
      unfold keyN at h
      split at h
      · next ks hk =>
        cases h
        cases ru
        obtain ⟨its, rv, ⟨o, ho, hc, m, hd⟩, _⟩ := I.tuple h1
        have go : ∀ (ds : List D) (ks : List NestedKey) (xs : List V) (us : List Value), keysL (keyN n) ds = some ks → RpAll X.K H xs ds → Vals xs us → NestedAll s.heap ks us ∧ NestedKey.depthAll ks ≤ n := by
          intro ds
          induction ds with
          | nil => intro ks xs us q1 q2 q3; cases q1; cases q2; cases q3; exact ⟨.nil, Nat.zero_le _⟩
          | cons d ds ih =>
            intro ks xs us q1 q2 q3
            unfold keysL at q1
            split at q1
            · next k0 e0 =>
              split at q1
              · next ks0 e1 =>
                cases q1
                cases q2 with
                | cons a1 a2 =>
                  cases q3 with
                  | cons b1 b2 =>
                    obtain ⟨c1, c2⟩ := key_is I n d k0 _ _ e0 a1 b1
                    obtain ⟨c3, c4⟩ := ih ks0 _ _ e1 a2 b2
                    exact ⟨.cons c1 c3, by simp only [NestedKey.depthAll]; omega⟩
              · cases q1
            · cases q1
        obtain ⟨g1, g2⟩ := go ds ks xs its hk h2 rv
        exact ⟨.tup ho hc hd (by simpa using g1), by simp only [NestedKey.depth]; omega⟩
      · cases h

abbrev Ent := NestedKey × Addr × V
def lookK (xs : List Ent) (k : NestedKey) : Option V := (xs.find? fun x => decide (x.1 = k)).map (·.2.2)
def putK' (xs : List Ent) (k : NestedKey) (a : Addr) (v : V) : List Ent :=
  if (lookK xs k).isSome then xs.map (fun x => if x.1 = k then (x.1, x.2.1, v) else x) else xs ++ [(k, a, v)]
theorem putK'_len (xs : List Ent) (k : NestedKey) (a : Addr) (v : V) : (putK' xs k a v).length ≤ xs.length + 1 := by
  unfold putK'
  split
  · rw [List.length_map]; exact Nat.le_succ _
  · rw [List.length_append]; exact Nat.le_refl _
def EntRel : List Ent → List (NestedKey × Addr × Value) → Prop := Paired fun p q => p.1 = q.1 ∧ p.2.1 = q.2.1 ∧ RelV p.2.2 q.2.2
theorem EntRel.look {xs : List Ent} {us : List (NestedKey × Addr × Value)} (r : EntRel xs us) (k : NestedKey) : RelO (lookK xs k) ((atKey us k).map (·.2)) := by
  unfold EntRel at r
  induction r with
  | nil => exact True.intro
  | @cons p q ps qs h t ih =>
    obtain ⟨h1, h2, h3⟩ := h
    by_cases e : p.1 = k
    · have e1 : lookK (p :: ps) k = some p.2.2 := by simp [lookK, List.find?_cons, e]
      have e2 : (atKey (q :: qs) k).map (·.2) = some q.2.2 := by simp [atKey, List.find?_cons, ← h1, e]
      rw [e1, e2]; exact h3
    · have e1 : lookK (p :: ps) k = lookK ps k := by simp [lookK, List.find?_cons, e]
      have e2 : atKey (q :: qs) k = atKey qs k := by simp [atKey, List.find?_cons, ← h1, e]
      rw [e1, e2]; exact ih
theorem EntRel.put {xs : List Ent} {us : List (NestedKey × Addr × Value)} (r : EntRel xs us) (k : NestedKey) (b : Addr) {v : V} {u : Value} (rv : RelV v u) : EntRel (putK' xs k b v) (storedH us k b u) := by
  have hs : (lookK xs k).isSome = (atKey us k).isSome := by
    have q := r.look k
    cases e1 : lookK xs k with
    | none =>
      cases e2 : atKey us k with
      | none => rfl
      | some p => rw [e1, e2] at q; exact q.elim
    | some w =>
      cases e2 : atKey us k with
      | none => rw [e1, e2] at q; exact q.elim
      | some p => rfl
  unfold putK' storedH
  rw [hs]
  have mp : ∀ {xs : List Ent} {us : List (NestedKey × Addr × Value)}, EntRel xs us → EntRel (xs.map fun x => if x.1 = k then (x.1, x.2.1, v) else x) (us.map (putAt k u)) := by
    intro xs us r
    unfold EntRel at r
    induction r with
    | nil => exact .nil
    | @cons p q ps qs h t ih =>
      obtain ⟨h1, h2, h3⟩ := h
      refine .cons ?_ ih
      show (fun p q => p.1 = q.1 ∧ p.2.1 = q.2.1 ∧ RelV p.2.2 q.2.2) (if p.1 = k then (p.1, p.2.1, v) else p) (if q.1 = k then (q.1, q.2.1, u) else q)
      by_cases e : p.1 = k
      · rw [if_pos e, if_pos (h1 ▸ e)]; exact ⟨h1, h2, rv⟩
      · rw [if_neg e, if_neg (fun z => e (h1.trans z))]; exact ⟨h1, h2, h3⟩
  have ap : ∀ {xs : List Ent} {us : List (NestedKey × Addr × Value)}, EntRel xs us → EntRel (xs ++ [(k, b, v)]) (us ++ [(k, b, u)]) := by
    intro xs us r
    unfold EntRel at r
    induction r with
    | nil => exact .cons ⟨rfl, rfl, rv⟩ .nil
    | cons h t ih => exact .cons h ih
  split
  · exact mp r
  · exact ap r
section
variable (P : Program) (w : World)
def dkPhi (a : Addr) (xs : List Ent) (h : Heap) : Prop := (a == sysModules) = false ∧ xs.length ≤ lim ∧ ∃ us, EntRel xs us ∧ ∃ o es ep, h.get? a = some o ∧ o.ExactDict ∧ o.data = .dict es ep ∧ es.toList = us.map (entryOfKey (nestedKind P w)) ∧ (us.map (·.1)).Nodup
def DkO (a : Addr) (xs : List Ent) : HO := .ext (dkPhi P w a xs)
end
/-- the keys' own tuples stand -/
def KeysIn (K : PySem.W.Frag) (H : Hp) (xs : List Ent) : Prop := ∀ x ∈ xs, ∃ kd, keyN 8 kd = some x.1 ∧ Rp K H (.ref x.2.1) kd
theorem KeysIn.mono {K : PySem.W.Frag} {H H' : Hp} {xs : List Ent} (k : KeysIn K H xs) (e : ∀ a ys, SqT K H a ys → SqT K H' a ys) (nl : ∀ x ∈ xs, ∀ kd, keyN 8 kd = some x.1 → nlN 8 kd = true) : KeysIn K H' xs := fun x hx => by
  obtain ⟨kd, h1, h2⟩ := k x hx
  exact ⟨kd, h1, Rp.keepT e 8 kd _ (nl x hx kd h1) h2⟩
theorem nl_of_key : ∀ (n : Nat) (d : D) (k : NestedKey), keyN n d = some k → nlN n d = true
  | 0, _, _, h => by cases h
  | n + 1, d, k, h => by
    cases d with
    | list xs => cases h
    | dict xs => cases h
    | tuple xs =>
      unfold keyN at h
      split at h
      · next ks hk =>
        have go : ∀ (ds : List D) (ks : List NestedKey), keysL (keyN n) ds = some ks → ds.all (nlN n) = true := by
          intro ds
          induction ds with
          | nil => intro _ _; rfl
          | cons d ds ih =>
            intro ks q
            unfold keysL at q
            split at q
            · next k0 e0 =>
              split at q
              · next ks0 e1 => rw [List.all_cons, nl_of_key n d k0 e0, ih ks0 e1]; rfl
              · cases q
            · cases q
        exact go xs ks hk
      · cases h
    | none => rfl
    | bool _ => rfl
    | int _ => rfl
    | str _ => rfl
theorem KeysIn.keep {K : PySem.W.Frag} {H H' : Hp} {xs : List Ent} (k : KeysIn K H xs) (e : ∀ a ys, SqT K H a ys → SqT K H' a ys) : KeysIn K H' xs := k.mono e fun _ _ kd h => nl_of_key 8 kd _ h
theorem KeysIn.same {K : PySem.W.Frag} {H H' : Hp} {xs : List Ent} (k : KeysIn K H xs) (e : Same H H') : KeysIn K H' xs := k.keep fun _ _ h => sqT_same e h
theorem dkPhi_ok {P : Program} {w : World} {H : Hp} {a : Addr} {xs : List Ent} {h : Heap} (x : dkPhi P w a xs h) : ObjOk P w H h a (DkO P w a xs) := by
  have x0 := x
  obtain ⟨_, _, us, _, o, es, ep, ho, _⟩ := x
  refine ⟨x0, ⟨o, ho⟩, fun h1 h2 p k => ?_⟩
  obtain ⟨q1, q2, us', q3, o', es', ep', ho', q4⟩ := p
  exact ⟨q1, q2, us', q3, o', es', ep', k _ ho', q4⟩
section
variable {X : Cx} {pins : List (Addr × Obj)} {σ : L2.St} {H : Hp} {s : Shared} {a b : Addr} {xs : List Ent} {k : NestedKey} {kd : D} {y : V} {u : Value}
theorem inv_dk (I : Inv X pins σ H s) (h : Rd H a (DkO X.prog X.w a xs)) (ks : KeysIn X.K H xs) : (a == sysModules) = false ∧ xs.length ≤ lim ∧ ∃ us, EntRel xs us ∧ s.heap.DictOfH (nestedKind X.prog X.w) a us := by
  have q := h.ok I.hok
  obtain ⟨q, _, _⟩ := q
  obtain ⟨q1, q2, us, r, o, es, ep, ho, hx, hd, he, hn⟩ := q
  refine ⟨q1, q2, us, r, o, es, ep, ho, hx, hd, he, fun x hm => ?_, hn⟩
  have : ∀ {xs : List Ent} {us : List (NestedKey × Addr × Value)}, EntRel xs us → ∀ x ∈ us, ∃ z ∈ xs, z.1 = x.1 ∧ z.2.1 = x.2.1 := by
    intro xs us r
    unfold EntRel at r
    induction r with
    | nil => intro x hx; cases hx
    | @cons p q ps qs h t ih =>
      intro x hx
      rcases List.mem_cons.mp hx with rfl | hx
      · exact ⟨p, List.mem_cons_self, h.1, h.2.1⟩
      · obtain ⟨z, hz, e⟩ := ih x hx
        exact ⟨z, List.mem_cons_of_mem _ hz, e⟩
  obtain ⟨z, hz, e1, e2⟩ := this r x hm
  obtain ⟨kd, h1, h2⟩ := ks z hz
  have c := key_is I 8 kd z.1 (.ref z.2.1) (.ref z.2.1) h1 h2 rfl
  rw [e1, e2] at c
  exact c
theorem inv_key (I : Inv X pins σ H s) (hk : keyN 8 kd = some k) (r : Rp X.K H (.ref b) kd) : (nestedKind X.prog X.w).is s.heap k b := key_is I 8 kd k (.ref b) (.ref b) hk r rfl
end
/-- what a key of a dict asks -/
structure AtK (K : PySem.W.Frag) (P : Program) (w : World) (H : Hp) (a : Addr) (y : V) (xs : List Ent) (k : NestedKey) : Prop where
  d : Rd H a (DkO P w a xs)
  ks : KeysIn K H xs
  y : ∃ b kd, y = .ref b ∧ keyN 8 kd = some k ∧ Rp K H (.ref b) kd
def tKGet (K : PySem.W.Frag) (P : Program) (w : World) (td ty : TE) : TE := fun σ H Q => td σ H fun x H1 => ty σ H1 fun y H2 => ∃ a xs k v, x = .ref a ∧ AtK K P w H2 a y xs k ∧ lookK xs k = some v ∧ Q v H2
def rKIn (K : PySem.W.Frag) (P : Program) (w : World) (neg : Bool) : R2 := fun y x H Q => ∃ a xs k, x = .ref a ∧ AtK K P w H a y xs k ∧ Q (.bl (if neg then !(lookK xs k).isSome else (lookK xs k).isSome)) H
def sKPut (K : PySem.W.Frag) (P : Program) (w : World) (td ty tv : TE) : TS := fun De σ H => tv σ H fun v H1 => td σ H1 fun x H2 => ty σ H2 fun y H3 => ∃ a xs k b kd, x = .ref a ∧ H3 a = some (DkO P w a xs) ∧ KeysIn K H3 xs ∧ y = .ref b ∧ keyN 8 kd = some k ∧ Rp K H3 (.ref b) kd ∧ xs.length < lim ∧
  De.nx σ (upd H3 a (DkO P w a (putK' xs k b v)))
def tKGet2 (K : PySem.W.Frag) (P : Program) (w : World) (td ty tx : TE) : TE := fun σ H Q => td σ H fun x H1 => ∃ a xs, x = .ref a ∧ Rd H1 a (DkO P w a xs) ∧ ty σ H1 fun y H2 => tx σ H2 fun z H3 => ∃ k, AtK K P w H3 a y xs k ∧ Q ((lookK xs k).getD z) H3
def tKDisp (P : Program) (w : World) (tk tv : TE) (K : PySem.W.Frag) : TE := fun σ H Q => ∀ p, H p = none → tk σ (upd H p (DkO P w p [])) fun y H1 => tv σ H1 fun v H2 => ∃ k b kd, H2 p = some (DkO P w p []) ∧ y = .ref b ∧ keyN 8 kd = some k ∧ Rp K H2 (.ref b) kd ∧ Q (.ref p) (upd H2 p (DkO P w p [(k, b, v)]))
section
variable {X : Cx} {o i e f value : Expr} {pos pos' apos cpos : Pos} {td ty tv tx tk : TE}
theorem kroom {A : Around} (hu : A.units + 64 < cLine) : (nestedKind X.prog X.w).room A.in1 := by
  show A.units + 1 + 8 < cLine
  omega
theorem pe_kget (hu : X.A.units + 64 < cLine) (ho : PE X o td) (hi : PE X i ty) (hs : NoSl i := by exact fun _ _ => rfl) : PE X (.Subscript o i pos) (tKGet X.K X.prog X.w td ty) := by
  refine ⟨fun pins s σ H Q I h => ?_⟩
  refine subD_of PySem.F.slot_dict_getitem.lookup hs (thn (ho.run pins s σ H _ I h) fun u s1 hh => ?_)
  obtain ⟨x, H1, I1, rx, q1⟩ := hh
  refine thn (hi.run pins s1 σ H1 _ I1 q1) fun iv s2 hh => ?_
  obtain ⟨y, H2, I2, ry, a, xs, k, v, ex, g, l, q2⟩ := hh
  subst ex
  obtain rfl : u = Value.ref a := rx
  obtain ⟨b, kd, rfl, hk, rb⟩ := g.y
  obtain rfl : iv = Value.ref b := ry
  obtain ⟨_, _, us, r, dd⟩ := inv_dk I2 g.d g.ks
  have rl := r.look k
  rw [l] at rl
  obtain ⟨w', hw, rw'⟩ := RelO.some_of rl
  obtain ⟨p, hp, hp2⟩ := Option.map_eq_some_iff.mp hw
  refine ⟨dd.typeIs, wpAny_getItem_heap (kroom hu) (inv_key I2 hk rb) dd hp ⟨v, H2, I2.tok _, ?_, q2⟩⟩
  rw [hp2]; exact rw'
theorem isSome_rel {o : Option V} {p : Option (Addr × Value)} (r : RelO o (p.map (·.2))) : p.isSome = o.isSome := by
  cases o <;> cases p <;> first | rfl | exact r.elim
theorem op_kin (hu : X.A.units + 64 < cLine) : OpR X (compareOp .In) (rKIn X.K X.prog X.w false) := by
  intro pins s σ H y x iv u Q I ry rx hh
  obtain ⟨a, xs, k, rfl, g, q⟩ := hh
  obtain rfl : u = Value.ref a := rx
  obtain ⟨b, kd, rfl, hk, rb⟩ := g.y
  obtain rfl : iv = Value.ref b := ry
  obtain ⟨hd, _, us, r, dd⟩ := inv_dk I g.d g.ks
  refine wpAny_in_heap (kroom hu) (inv_key I hk rb) hd dd ?_
  rw [isSome_rel (r.look k)]
  exact ⟨.bl _, H, I.tok _, rfl, q⟩
theorem op_knotIn (hu : X.A.units + 64 < cLine) : OpR X (compareOp .NotIn) (rKIn X.K X.prog X.w true) := by
  intro pins s σ H y x iv u Q I ry rx hh
  obtain ⟨a, xs, k, rfl, g, q⟩ := hh
  obtain rfl : u = Value.ref a := rx
  obtain ⟨b, kd, rfl, hk, rb⟩ := g.y
  obtain rfl : iv = Value.ref b := ry
  obtain ⟨hd, _, us, r, dd⟩ := inv_dk I g.d g.ks
  show wpAny _ _ (do return Value.bool (!(← contains (.ref a) (.ref b)))) _ _ s
  refine wpAny_bind (wpAny_contains_heap (kroom hu) (inv_key I hk rb) hd dd (wpAny_pure ?_))
  rw [isSome_rel (r.look k)]
  exact ⟨.bl _, H, I.tok _, rfl, q⟩
theorem ps_kput (hu : X.A.units + 64 < cLine) (ho : PE X o td) (hi : PE X i ty) (hv : PE X value tv) (hs : swapsWith value (some (.Subscript o i pos')) pos.line X.env = pure false := by rfl) :
    PS X (.Assign [.Subscript o i pos'] value pos) (sKPut X.K X.prog X.w td ty tv) := by
  refine ⟨fun pins s σ H De I h => ?_⟩
  refine wpAny_Assign_Subscript (thn (hv.run pins s σ H _ I h) fun r s1 hh => ?_) hs
  obtain ⟨v, H1, I1, rv, q1⟩ := hh
  refine thn (ho.run pins s1 σ H1 _ I1 q1) fun u s2 hh => ?_
  obtain ⟨x, H2, I2, rx, q2⟩ := hh
  refine thn (hi.run pins s2 σ H2 _ I2 q2) fun iv s3 hh => ?_
  obtain ⟨y, H3, I3, ry, a, xs, k, b, kd, ex, ha, ks, ey, hk, rb, hl, q3⟩ := hh
  subst ex ey
  obtain rfl : u = Value.ref a := rx
  obtain rfl : iv = Value.ref b := ry
  obtain ⟨hd, hlen, us, rel, dd⟩ := inv_dk I3 (.inl ha) ks
  have hz : us.length ≤ sizeLine := by
    have e : xs.length = us.length := Paired.length rel
    rw [← e]; exact lim_line hlen
  refine wpAny_setItem_heap (hsz := hz) (kroom hu) (inv_key I3 hk rb) dd fun h' dd' sb => ?_
  obtain ⟨ob, es, ep, hob, h2, h3, h4, _, h5⟩ := dd'
  have new : dkPhi X.prog X.w a (putK' xs k b v) h' := ⟨hd, by have := putK'_len xs k b v; omega, _, rel.put k b rv, ob, es, ep, hob, h2, h3, h4, h5⟩
  have J : Inv X pins σ (upd H3 a (DkO X.prog X.w a (putK' xs k b v))) { s3 with heap := h', toks := s3.toks + (nestedKind X.prog X.w).draws k } :=
    I3.write (x := a) (e := a) (by rw [ha]; exact True.intro) (.inl rfl) (fun c q hc z => (sb.2 c hc).trans z) ⟨ob, hob⟩ (dkPhi_ok new)
  exact ⟨σ, _, J, q3⟩
theorem pe_kget2 (hu : X.A.units + 64 < cLine) (ho : PE X o td) (he : PE X e ty) (hf : PE X f tx) (m : M2 X o "get" apos e f cpos) : PE X (.Call (.Attribute o "get" apos) [e, f] [] cpos) (tKGet2 X.K X.prog X.w td ty tx) := by
  refine ⟨fun pins s σ H Q I h => ?_⟩
  refine wpAny_Call_method m.base m.few m.line PySem.F.plainAttrs_dict PySem.F.slot_dict_get PySem.F.type_dict_get (thn (ho.run pins s σ H _ I h) fun u s1 hh => ?_)
  obtain ⟨x, H1, I1, rx, a, xs, ex, dx, q1⟩ := hh
  subst ex
  obtain rfl : u = Value.ref a := rx
  have dt : s1.TypeIs (.ref a) "dict" ∧ ∀ b, Value.ref a = .ref b → ∃ ob, s1.heap.get? b = some ob ∧ ob.dict = none := by
    obtain ⟨⟨_, _, us, _, ob, es, ep, hob, hx, _⟩, _⟩ := dx.ok I1.hok
    exact ⟨⟨ob, hob, hx.1⟩, fun b q => by cases q; exact ⟨ob, hob, hx.2.1⟩⟩
  refine ⟨dt.1, dt.2, ?_⟩
  rw [m.trees]
  refine Calls.callWith_builtin rfl (Calls.evalArgs_plain (Calls.spliced_cons (thn (he.run pins s1 σ H1 _ I1 q1) fun iv s2 hh => ?_)))
  obtain ⟨y, H2, I2, ry, q2⟩ := hh
  refine Calls.spliced_cons (thn (hf.run pins s2 σ H2 _ I2 q2) fun fv s3 hh => Calls.spliced_nil ?_)
  obtain ⟨z, H3, I3, rz, k, g, q3⟩ := hh
  obtain ⟨b, kd, rfl, hk, rb⟩ := g.y
  obtain rfl : iv = Value.ref b := ry
  obtain ⟨hd, _, us, r, dd⟩ := inv_dk I3 g.d g.ks
  refine call_meetsIn PySem.F.slot_dict_get dd.typeIs PySem.F.entry_dict_get (PySem.F.args_dict_get_3 _ _ _) (meetsH_dict_get_default (nestedKind X.prog X.w) a b hd fv) ⟨kroom hu, k, us, inv_key I3 hk rb, dd, ?_⟩
  have rl := r.look k
  refine ⟨(lookK xs k).getD z, H3, I3.tok _, ?_, q3⟩
  cases e1 : lookK xs k with
  | none =>
    rw [e1] at rl
    cases e2 : (atKey us k).map (·.2) with
    | none => exact rz
    | some p => rw [e2] at rl; exact rl.elim
  | some v =>
    rw [e1] at rl
    cases e2 : (atKey us k).map (·.2) with
    | none => rw [e2] at rl; exact rl.elim
    | some p => rw [e2] at rl; exact rl
/-- {k: v} -/
theorem pe_kdisp (hu : X.A.units + 64 < cLine) (hk : PE X e tk) (hv : PE X f tv) : PE X (.Dict [some e] [f] pos) (tKDisp X.prog X.w tk tv X.K) := by
  refine ⟨fun pins s σ H Q I h => ?_⟩
  have hn := I.hok.fresh (Nat.le_refl s.heap.objs.size)
  have hsm : (s.heap.objs.size == sysModules) = false := beq_eq_false_iff_ne.mpr (Ne.symm (Nat.ne_of_lt I.big))
  have e0 : dkPhi X.prog X.w s.heap.objs.size [] (s.heap.push { cls := .type "dict", data := .dict #[] }) := ⟨hsm, Nat.zero_le _, [], .nil, _, #[], 0, Heap.get?_push_size _ rfl, ⟨rfl, rfl, rfl⟩, rfl, rfl, List.nodup_nil⟩
  have I1 := I.laid (a := s.heap.objs.size) (o := DkO X.prog X.w s.heap.objs.size []) (h' := s.heap.push { cls := .type "dict", data := .dict #[] }) (t' := s.toks) (fun _ _ q => Heap.get?_push_of_some _ q) (Nat.le_refl _) (dkPhi_ok e0)
  rw [arm_eval_Dict, zip_pairTrees [some e] [f] X.env pos rfl rfl, dictDisplay_pairs _ (by simp [pairTrees]) (by show 1 < 17; decide)]
  refine wpAny_bind (wpAny_standAt (wpAny_bind (wpAny_subDictH (knd := nestedKind X.prog X.w) (Q := fun d s' => wpAny (model X.prog X.w) X.A (pure (Value.ref d)) (EP X pins σ Q) X.xe s') (pairs := pairTrees [some e] [f] X.env pos) (by show X.A.units + 8 < cLine; omega) (by show 1 ≤ 15; decide) ?_)))
  refine pairTrees_cons_walk (ks := []) (vs := []) (thn (hk.run pins _ σ _ _ I1 (h _ hn)) fun u s1 hh => ?_)
  obtain ⟨y, H1, I2, ry, q1⟩ := hh
  refine thn (hv.run pins s1 σ H1 _ I2 q1) fun r s2 hh => ?_
  obtain ⟨v, H2, I3, rv, k, b, kd, hp, rfl, hkk, rb, q⟩ := hh
  obtain rfl : u = Value.ref b := ry
  refine pairTrees_nil_walk ⟨[(k, b, r)], ⟨rfl, rfl, inv_key I3 hkk rb, True.intro⟩, ?_, fun h' tk dd sb => ?_⟩
  · obtain ⟨_, _, us, rel, dd⟩ := inv_dk I3 (.inl hp) (fun x hx => by cases hx)
    cases rel
    exact dd
  · obtain ⟨ob, es, ep, hob, h2, h3, h4, _, h5⟩ := dd
    have new : dkPhi X.prog X.w s.heap.objs.size [(k, b, v)] h' := ⟨hsm, by show 1 ≤ lim; decide, _, .cons ⟨rfl, rfl, rv⟩ .nil, ob, es, ep, hob, h2, h3, h4, h5⟩
    have J := I3.write (x := s.heap.objs.size) (e := s.heap.objs.size) (t' := tk) (by rw [hp]; exact True.intro) (.inl rfl) (fun c q hc z => (sb.2 c hc).trans z) ⟨ob, hob⟩ (dkPhi_ok new)
    exact wpAny_pure ⟨.ref s.heap.objs.size, _, J, rfl, q⟩
end
end Mv

/-! part Dk2 -/
set_option maxHeartbeats 4000000
namespace Mv
open PySem PySem.Spec L2

/-! ### walking a dict that stands locked -/
/-- the dict at a stands locked -/
def Fz (P : Program) (w : World) (H : Hp) (a : Addr) (o : Obj) (xs : List Ent) : Prop := H a = some (.frz o (DkO P w a xs))
section
variable {X : Cx} {pins : List (Addr × Obj)} {σ : L2.St} {H : Hp} {s : Shared} {d : Addr} {o : Obj} {xs : List Ent}
theorem entRel_get {xs : List Ent} {us : List (NestedKey × Addr × Value)} (r : EntRel xs us) : ∀ {i : Nat} {x : Ent}, xs[i]? = some x → ∃ u, us[i]? = some u ∧ x.2.1 = u.2.1 ∧ RelV x.2.2 u.2.2 := by
  unfold EntRel at r
  induction r with
  | nil => intro i x h; simp at h
  | cons h t ih =>
    intro i x e
    cases i with
    | zero => rw [List.getElem?_cons_zero] at e; cases e; exact ⟨_, rfl, h.2⟩
    | succ i => rw [List.getElem?_cons_succ] at e ⊢; exact ih e
theorem inv_fz (I : Inv X pins σ H s) (h : Fz X.prog X.w H d o xs) : (d == sysModules) = false ∧ s.heap.get? d = some o ∧ o.ExactDict ∧ ∃ (es : Array DictEntry) (ep : Nat), o.data = .dict es ep ∧ es.size = xs.length ∧
    ∀ (i : Nat) (x : Ent), xs[i]? = some x → ∃ (en : DictEntry), es[i]? = some en ∧ en.key = .ref x.2.1 ∧ RelV x.2.2 en.val := by
  obtain ⟨hd, x, _⟩ := I.hok d _ h
  obtain ⟨hs, _, us, rel, o', es, ep, ho, hx, hdt, he, _⟩ := x
  rw [hd] at ho
  cases ho
  have l1 : es.size = us.length := size_of_entries he
  have l2 : xs.length = us.length := Paired.length rel
  refine ⟨hs, hd, hx, es, ep, hdt, by omega, fun i x e => ?_⟩
  obtain ⟨u, hu, e1, e2⟩ := entRel_get rel e
  have q := entry_at he i
  rw [hu] at q
  exact ⟨_, q, by rw [e1]; rfl, e2⟩
end
/-- its keys' own tuples -/
def ItKd (P : Program) (w : World) (d : Addr) (o : Obj) (xs : List Ent) : It :=
  ⟨fun i H => Fz P w H d o xs ∧ i < xs.length, fun i H y H' => H' = H ∧ ∃ x, xs[i]? = some x ∧ y = .ref x.2.1, fun i H => Fz P w H d o xs ∧ xs.length ≤ i⟩
/-- its values -/
def ItVd (P : Program) (w : World) (d : Addr) (o : Obj) (xs : List Ent) : It :=
  ⟨fun i H => Fz P w H d o xs ∧ i < xs.length, fun i H y H' => H' = H ∧ ∃ x, xs[i]? = some x ∧ y = x.2.2, fun i H => Fz P w H d o xs ∧ xs.length ≤ i⟩
section
variable {P : Program} {w : World} {K : PySem.W.Frag} {tg : Expr} {d : Addr} {o : Obj} {es : Array DictEntry} {ep : Nat} {xs : List Ent}
theorem turn_kd (it : Addr) (hod : o.data = .dict es ep) : Turn P w K tg (ItKd P w d o xs) [it] it (fun i h => h.IsKeyIter it d i xs.length ep) where
  mem := by simp
  obj := fun i h st b hb => by
    have e : b = it := by simpa using hb
    subst e
    obtain ⟨oi, e, c, dd⟩ := st
    exact ⟨oi, e, fun v z => by rw [dd] at z; cases z⟩
  keep := fun i h h' st k => st.at fun oi e => k it (by simp) oi e
  item := by
    intro X hP hw hK hc i pins s σ H E I hf st hg
    subst hP hw hK
    obtain ⟨hd, hi⟩ := hg
    obtain ⟨f0, f1, f2, f3, f4, f5⟩ := hf it (by simp)
    obtain ⟨hs, hgd, hx, es', ep', hdt, hsz, ent⟩ := inv_fz I hd
    obtain ⟨rfl, rfl⟩ := dict_ep hod hdt
    obtain ⟨en, hen, hkey, hval⟩ := ent i xs[i] (List.getElem?_eq_getElem hi)
    refine next_key_item st hgd hdt hsz hen fun h' st' sb => ?_
    have I1 : Inv X pins σ H { s with heap := h' } := I.turned (t' := s.toks) (fun b ob hb e => (sb.2 b hb).trans e) f0 f1 f3 f4 f5
    obtain ⟨oi, e, c, dd⟩ := id st'
    exact ⟨en.key, rfl, go_of (s := { s with heap := h' }) e c dd (by decide) ⟨.ref xs[i].2.1, H, I1, hkey, ⟨rfl, _, List.getElem?_eq_getElem hi, rfl⟩, st', fun b hb => (hf b hb).1⟩⟩
  done := by
    intro X hP hw hK hc i pins s σ H E I hf st hg
    subst hP hw hK
    obtain ⟨hd, hi⟩ := hg
    obtain ⟨f0, f1, f2, f3, f4, f5⟩ := hf it (by simp)
    obtain ⟨hs, hgd, hx, es', ep', hdt, hsz, ent⟩ := inv_fz I hd
    obtain ⟨rfl, rfl⟩ := dict_ep hod hdt
    exact next_key_end (I.ok.hd hc) st hgd hdt hsz hi fun h' eb => ⟨rfl, I.turned (t' := s.toks) (fun b ob hb e => eb b ob hb e) f0 f1 f3 f4 f5⟩
  self := fun A i s Q E st h => by
    refine wpAny_pyIter_slot st.typeIs F.slot_dict_keyiterator_iter (wpAny_call_entry F.slot_dict_keyiterator_iter st.typeIs F.entry_dict_keyiterator_iter ?_ (F.args_dict_keyiterator_iter_1 _))
    exact wpAny_pure ⟨_, rfl, "dict_keyiterator", _, st.typeIs, F.slot_dict_keyiterator_next.lookup, h⟩
theorem turn_vd (it : Addr) (hod : o.data = .dict es ep) : Turn P w K tg (ItVd P w d o xs) [it] it (fun i h => h.IsValIter it d i xs.length ep) where
  mem := by simp
  obj := fun i h st b hb => by
    have e : b = it := by simpa using hb
    subst e
    obtain ⟨oi, e, c, dd⟩ := st
    exact ⟨oi, e, fun v z => by rw [dd] at z; cases z⟩
  keep := fun i h h' st k => st.at fun oi e => k it (by simp) oi e
  item := by
    intro X hP hw hK hc i pins s σ H E I hf st hg
    subst hP hw hK
    obtain ⟨hd, hi⟩ := hg
    obtain ⟨f0, f1, f2, f3, f4, f5⟩ := hf it (by simp)
    obtain ⟨hs, hgd, hx, es', ep', hdt, hsz, ent⟩ := inv_fz I hd
    obtain ⟨rfl, rfl⟩ := dict_ep hod hdt
    obtain ⟨en, hen, hkey, hval⟩ := ent i xs[i] (List.getElem?_eq_getElem hi)
    have hlt : i < es'.size := by omega
    have ee : es'[i] = en := by rw [Array.getElem?_eq_getElem hlt] at hen; exact Option.some.inj hen
    rw [← hsz] at st
    refine wpAny_pyNext_values_item_raw st ⟨o, hgd, hx, hdt⟩ hlt fun h' st' sb => ?_
    have I1 : Inv X pins σ H { s with heap := h' } := I.turned (t' := s.toks) (fun b ob hb e => (sb.2 b hb).trans e) f0 f1 f3 f4 f5
    obtain ⟨oi, e, c, dd⟩ := id st'
    refine ⟨es'[i].val, rfl, go_of (s := { s with heap := h' }) e c dd (by decide) ⟨xs[i].2.2, H, I1, by rw [ee]; exact hval, ⟨rfl, _, List.getElem?_eq_getElem hi, rfl⟩, ?_, fun b hb => (hf b hb).1⟩⟩
    show h'.IsValIter it d (i + 1) xs.length _
    rw [← hsz]
    exact st'
  done := by
    intro X hP hw hK hc i pins s σ H E I hf st hg
    subst hP hw hK
    obtain ⟨hd, hi⟩ := hg
    obtain ⟨f0, f1, f2, f3, f4, f5⟩ := hf it (by simp)
    obtain ⟨hs, hgd, hx, es', ep', hdt, hsz, ent⟩ := inv_fz I hd
    obtain ⟨rfl, rfl⟩ := dict_ep hod hdt
    rw [← hsz] at st
    exact wpAny_pyNext_values_end_raw (I.ok.hd hc) st ⟨o, hgd, hx, hdt⟩ (by omega) fun h' eb => ⟨rfl, I.turned (t' := s.toks) (fun b ob hb e => eb b ob hb e) f0 f1 f3 f4 f5⟩
  self := fun A i s Q E st h => wpAny_pyIter_valiter st h
end
def iKd (P : Program) (w : World) (td : TE) : TI := fun σ H R => td σ H fun x H1 => ∃ d o xs, x = .ref d ∧ Fz P w H1 d o xs ∧ R (ItKd P w d o xs) H1
def iVd (P : Program) (w : World) (td : TE) : TI := fun σ H R => td σ H fun x H1 => ∃ d o xs, x = .ref d ∧ Fz P w H1 d o xs ∧ R (ItVd P w d o xs) H1
section
variable {X : Cx} {tg e : Expr} {td : TE} {apos cpos : Pos}
theorem pi_kd (he : PE X e td) : PI X tg e (iKd X.prog X.w td) := by
  refine ⟨fun pins s σ H R I h => ?_⟩
  refine thn (he.run pins s σ H _ I h) fun u s1 ⟨x, H1, I1, rx, d, o, xs, ex, hd, q⟩ => ?_
  subst ex
  obtain rfl : u = Value.ref d := rx
  obtain ⟨hs, hgd, hx, es, ep, hdt, hsz, ent⟩ := inv_fz I1 hd
  refine iter_keys hs hgd hx hdt (pi_one (tk := s1.toks) I1 _ (turn_kd _ hdt) ⟨_, Heap.get?_push_size _ rfl, rfl, ?_⟩ q)
  rw [hsz] <;> rfl
theorem pi_vd (he : PE X e td) (hbase : attributeBase e "values" X.env (eval e X.env) = eval e X.env := by rfl) (hline : (apos.endLine == cpos.line) = true := by rfl) : PI X tg (.Call (.Attribute e "values" apos) [] [] cpos) (iVd X.prog X.w td) := by
  refine ⟨fun pins s σ H R I h => ?_⟩
  refine wpAny_Call_method (T := "dict") (id := "dict.values") hbase rfl hline F.plainAttrs_dict F.slot_dict_values F.type_dict_values (thn (he.run pins s σ H _ I h) fun u s1 ⟨x, H1, I1, rx, d, o, xs, ex, hd, q⟩ => ?_)
  subst ex
  obtain rfl : u = Value.ref d := rx
  obtain ⟨hs, hgd, hx, es, ep, hdt, hsz, ent⟩ := inv_fz I1 hd
  have raw : s1.heap.DictRaw d es ep := ⟨o, hgd, hx, hdt⟩
  refine ⟨raw.typeIs, fun b q => by cases q; exact ⟨o, hgd, hx.2.1⟩, ?_⟩
  have I2 : Inv X pins σ H1 { s1 with heap := s1.heap.push { cls := .type "dict_values", data := .fields #[.ref d] } } := I1.kept (t' := s1.toks) fun b ob q => Heap.get?_push_of_some _ q
  have fin : wpAny (model X.prog X.w) X.A (pyIter (.ref s1.heap.objs.size)) (PIE X pins σ tg R) X.xe { s1 with heap := s1.heap.push { cls := .type "dict_values", data := .fields #[.ref d] } } := by
    refine wpAny_pyIter_values_raw (d := d) ⟨_, Heap.get?_push_size _ rfl, rfl, rfl⟩ (raw.at fun _ e => Heap.get?_push_of_some _ e) (pi_one (tk := s1.toks) I2 _ (turn_vd _ hdt) ⟨_, Heap.get?_push_size _ rfl, rfl, ?_⟩ q)
    rw [hsz] <;> rfl
  show wpAny _ _ (callWith cpos (.builtin "dict.values") [.ref d] [] []) _ X.xe s1
  exact method_meetsIn F.slot_dict_values F.entry_dict_values rfl (PySem.evalArgs_none ⟨rfl, raw.typeIs, F.args_dict_values_1 _, _, meets_dict_values_raw d hs, ⟨es, ep, raw⟩, fin⟩)
/-- what a call lays is not written any more -/
def tFz (t : TE) : TE := fun σ H Q => t σ H fun v H' => ∃ d u, H' d = some u ∧ Mut (some u) ∧ ∀ od, Q v (upd H' d (.frz od u))
theorem pe_fz {t : TE} (h : PE X e t) : PE X e (tFz t) := by
  refine ⟨fun pins s σ H Q I hw => ?_⟩
  refine thn (h.run pins s σ H _ I hw) fun v s1 ⟨x, H1, I1, r, d, u, hd, mu, q⟩ => ?_
  obtain ⟨od, I2⟩ := I1.lock hd mu
  exact ⟨x, _, I2, r, q od⟩
end
end Mv

/-! part Dk3 -/
set_option maxHeartbeats 4000000
namespace Mv
open PySem PySem.Spec L2

/-! ### the floods: dicts from data to two whole numbers -/
abbrev Dd := List (D × Int × Int)
def lc (l c : Int) : D := .tuple [.int l, .int c]
def EntD (K : PySem.W.Frag) (G : Hp) : List Ent → Dd → Prop := Paired fun x p => keyN 8 p.1 = some x.1 ∧ Rp K G (.ref x.2.1) p.1 ∧ Rp K G x.2.2 (lc p.2.1 p.2.2)
def lookE (es : Dd) (k : NestedKey) : Option (Int × Int) := (es.find? fun p => decide (keyN 8 p.1 = some k)).map (·.2)
def putE (es : Dd) (k : NestedKey) (kd : D) (u : Int × Int) : Dd :=
  if (lookE es k).isSome then es.map (fun p => if keyN 8 p.1 = some k then (p.1, u) else p) else es ++ [(kd, u)]
section
variable {K : PySem.W.Frag} {G G' H : Hp} {xs : List Ent} {es : Dd} {k : NestedKey} {kd : D} {a : Addr} {v : V} {l c : Int}
theorem EntD.mono (r : EntD K G xs es) (e : Same G G') : EntD K G' xs es := by
  unfold EntD at r ⊢
  induction r with
  | nil => exact .nil
  | cons h t ih => exact .cons ⟨h.1, Rp.mono e _ _ h.2.1, Rp.mono e _ _ h.2.2⟩ ih
theorem EntD.keys (r : EntD K G xs es) (e : Same G H) : KeysIn K H xs := by
  unfold EntD at r
  induction r with
  | nil => intro x hx; cases hx
  | cons h t ih =>
    intro x hx
    rcases List.mem_cons.mp hx with rfl | hx
    · exact ⟨_, h.1, Rp.mono e _ _ h.2.1⟩
    · exact ih x hx
theorem EntD.look (r : EntD K G xs es) (k : NestedKey) : (lookK xs k = none ∧ lookE es k = none) ∨ ∃ v l c, lookK xs k = some v ∧ lookE es k = some (l, c) ∧ Rp K G v (lc l c) := by
  unfold EntD at r
  induction r with
  | nil => exact .inl ⟨rfl, rfl⟩
  | @cons x p xs es h t ih =>
    obtain ⟨h1, h2, h3⟩ := h
    by_cases e : x.1 = k
    · refine .inr ⟨x.2.2, p.2.1, p.2.2, by simp [lookK, List.find?_cons, e], ?_, h3⟩
      simp [lookE, List.find?_cons, h1, e]
    · have e1 : lookK (x :: xs) k = lookK xs k := by simp [lookK, List.find?_cons, e]
      have e2 : lookE (p :: es) k = lookE es k := by simp [lookE, List.find?_cons, h1, e]
      rw [e1, e2]; exact ih
theorem EntD.put (r : EntD K G xs es) (hk : keyN 8 kd = some k) (rk : Rp K G (.ref a) kd) (rv : Rp K G v (lc l c)) : EntD K G (putK' xs k a v) (putE es k kd (l, c)) := by
  have hs : (lookK xs k).isSome = (lookE es k).isSome := by
    rcases r.look k with ⟨e1, e2⟩ | ⟨_, _, _, e1, e2, _⟩ <;> rw [e1, e2] <;> rfl
  unfold putK' putE
  rw [hs]
  have mp : ∀ {xs : List Ent} {es : Dd}, EntD K G xs es → EntD K G (xs.map fun x => if x.1 = k then (x.1, x.2.1, v) else x) (es.map fun p => if keyN 8 p.1 = some k then (p.1, (l, c)) else p) := by
    intro xs es r
    unfold EntD at r
    induction r with
    | nil => exact .nil
    | @cons x p xs es h t ih =>
      obtain ⟨h1, h2, h3⟩ := h
      refine .cons ?_ ih
      show (fun x p => keyN 8 p.1 = some x.1 ∧ Rp K G (.ref x.2.1) p.1 ∧ Rp K G x.2.2 (lc p.2.1 p.2.2)) (if x.1 = k then (x.1, x.2.1, v) else x) (if keyN 8 p.1 = some k then (p.1, (l, c)) else p)
      by_cases e : x.1 = k
      · rw [if_pos e, if_pos (by rw [h1, e])]; exact ⟨h1, h2, rv⟩
      · rw [if_neg e, if_neg (fun z => e (by rw [h1] at z; exact Option.some.inj z))]; exact ⟨h1, h2, h3⟩
  have ap : ∀ {xs : List Ent} {es : Dd}, EntD K G xs es → EntD K G (xs ++ [(k, a, v)]) (es ++ [(kd, (l, c))]) := by
    intro xs es r
    unfold EntD at r
    induction r with
    | nil => exact .cons ⟨hk, rk, rv⟩ .nil
    | cons h t ih => exact .cons h ih
  split
  · exact mp r
  · exact ap r
theorem EntD.length (r : EntD K G xs es) : xs.length = es.length := Paired.length r
end
/-- the slots of _law_levels: data by rho, its dict at 4, its new row at 6 -/
structure LvS (K : PySem.W.Frag) (P : Program) (w : World) (G0 H0 G H : Hp) (σ : L2.St) (ρ : Ev) (es : Dd) (lt : Option (List D)) : Prop where
  gr : Grow G0 H0 G H
  rs : Rs K G σ ρ
  dk : ∃ a xs, σ[4]? = some (some (.ref a)) ∧ H0 a = none ∧ G a = none ∧ H a = some (DkO P w a xs) ∧ EntD K G xs es
  lt : ∀ ds, lt = some ds → ∃ l vs, σ[6]? = some (some (.ref l)) ∧ H0 l = none ∧ G l = none ∧ H l = some (.lst vs) ∧ RpAll K G vs ds
section
variable {K : PySem.W.Frag} {P : Program} {w : World} {G0 H0 G H G1 H1 : Hp} {σ σ' : L2.St} {ρ ρ' : Ev} {es : Dd} {lt : Option (List D)} {ds : List D} {v : V} {d kd : D} {k : NestedKey} {l c : Int}
theorem LvS.grow (S : LvS K P w G0 H0 G H σ ρ es lt) (g : Grow G H G1 H1) : LvS K P w G0 H0 G1 H1 σ ρ es lt :=
  ⟨S.gr.trans g, S.rs.mono g.g, by
    obtain ⟨a, xs, h1, h2, h3, h4, h5⟩ := S.dk
    exact ⟨a, xs, h1, h2, g.n a (by rw [h4]; trivial) h3, g.h _ _ h4, h5.mono g.g⟩, fun ds e => by
    obtain ⟨l, vs, h1, h2, h3, h4, h5⟩ := S.lt ds e
    exact ⟨l, vs, h1, h2, g.n l (by rw [h4]; trivial) h3, g.h _ _ h4, RpAll.mono g.g _ _ h5⟩⟩
theorem LvS.tgt (S : LvS K P w G0 H0 G H σ ρ es lt) (j : Nat) (h4 : j ≠ 4) (h6 : j ≠ 6) (rs : Rs K G σ' ρ') (hw : wipe σ' [j] = wipe σ [j]) : LvS K P w G0 H0 G H σ' ρ' es lt := by
  have same : ∀ i, i ≠ j → σ'[i]? = σ[i]? := fun i hi => by
    have e1 := wipe_get σ' i [j]
    have e2 := wipe_get σ i [j]
    rw [if_neg (fun z => hi (by simpa using z.1))] at e1 e2
    rw [← e1, ← e2, hw]
  refine ⟨S.gr, rs, ?_, fun ds e => ?_⟩
  · obtain ⟨a, xs, h1, r⟩ := S.dk
    exact ⟨a, xs, by rw [same 4 (Ne.symm h4)]; exact h1, r⟩
  · obtain ⟨l, vs, h1, r⟩ := S.lt ds e
    exact ⟨l, vs, by rw [same 6 (Ne.symm h6)]; exact h1, r⟩
theorem LvS.set (S : LvS K P w G0 H0 G H σ ρ es lt) (j : Nat) (h4 : j ≠ 4) (h6 : j ≠ 6) (r : Rp K G v d) : LvS K P w G0 H0 G H (σ.set j (some v)) (stE ρ j (some d)) es lt :=
  S.tgt j h4 h6 (S.rs.set j r) (wipe_set List.mem_cons_self)
/-- a new row -/
theorem LvS.row (S : LvS K P w G0 H0 G H σ ρ es lt) (hi : 6 < σ.length) {p : Addr} (hp : H p = none) : LvS K P w G0 H0 G (upd H p (.lst [])) (σ.set 6 (some (.ref p))) (stE ρ 6 none) es (some []) := by
  have g := S.gr.trans (Grow.side (p := p) (o := .lst []) S.gr.i hp)
  refine ⟨g, S.rs.unset 6 _, ?_, fun ds e => ?_⟩
  · obtain ⟨a, xs, h1, h2, h3, h4, h5⟩ := S.dk
    exact ⟨a, xs, by rw [List.getElem?_set_ne (by decide)]; exact h1, h2, h3, by rw [upd_ne (ne_of_none h4 hp)]; exact h4, h5⟩
  · cases e
    exact ⟨p, [], List.getElem?_set_self hi, S.gr.h.free hp, S.gr.i.free hp, upd_same, .nil⟩
/-- one more in the new row -/
theorem LvS.app (S : LvS K P w G0 H0 G H σ ρ es (some ds)) {p : Addr} {vs : List V} (hp : σ[6]? = some (some (.ref p))) (hl : H p = some (.lst vs)) (r : Rp K G v d) : LvS K P w G0 H0 G (upd H p (.lst (vs ++ [v]))) σ ρ es (some (ds ++ [d])) := by
  obtain ⟨p', vs', q1, q2, q3, q4, q5⟩ := S.lt ds rfl
  rw [hp] at q1; cases q1
  rw [hl] at q4; cases q4
  refine ⟨⟨S.gr.g, fun b o q => ?_, fun b o q => ?_, S.gr.n⟩, S.rs, ?_, fun ds' e => ?_⟩
  · rw [upd_ne (fun z => by rw [z, q3] at q; cases q)]; exact S.gr.i _ _ q
  · rw [upd_ne (fun z => by rw [z, q2] at q; cases q)]; exact S.gr.h _ _ q
  · obtain ⟨a, xs, h1, h2, h3, h4, h5⟩ := S.dk
    exact ⟨a, xs, h1, h2, h3, by rw [upd_ne (fun z => by rw [z, hl] at h4; cases h4)]; exact h4, h5⟩
  · cases e
    exact ⟨p, _, hp, q2, q3, upd_same, q5.append (.cons r .nil)⟩
/-- the dict has a new entry -/
theorem LvS.put (S : LvS K P w G0 H0 G H σ ρ es lt) {p a : Addr} {xs : List Ent} (hp : σ[4]? = some (some (.ref p))) (hl : H p = some (DkO P w p xs)) (hx : EntD K G xs es) (hk : keyN 8 kd = some k) (rk : Rp K G (.ref a) kd) (rv : Rp K G v (lc l c)) :
    LvS K P w G0 H0 G (upd H p (DkO P w p (putK' xs k a v))) σ ρ (putE es k kd (l, c)) lt := by
  obtain ⟨p', xs', q1, q2, q3, q4, q5⟩ := S.dk
  rw [hp] at q1; cases q1
  refine ⟨⟨S.gr.g, fun b o q => ?_, fun b o q => ?_, S.gr.n⟩, S.rs, ⟨p, _, hp, q2, q3, upd_same, hx.put hk rk rv⟩, fun ds' e => ?_⟩
  · rw [upd_ne (fun z => by rw [z, q3] at q; cases q)]; exact S.gr.i _ _ q
  · rw [upd_ne (fun z => by rw [z, q2] at q; cases q)]; exact S.gr.h _ _ q
  · obtain ⟨l, vs, h1, h2, h3, h4, h5⟩ := S.lt ds' e
    exact ⟨l, vs, h1, h2, h3, by rw [upd_ne (fun z => by rw [z, hl] at h4; cases h4)]; exact h4, h5⟩
/-- the new row becomes data -/
theorem LvS.data (S : LvS K P w G0 H0 G H σ ρ es (some ds)) : ∃ G2 p, σ[6]? = some (some (.ref p)) ∧ Same G G2 ∧ LvS K P w G0 H0 G2 H σ ρ es none ∧ Rp K G2 (.ref p) (.list ds) := by
  obtain ⟨p, vs, q1, q2, q3, q4, q5⟩ := S.lt ds rfl
  have sG : Same G (upd G p (.lst vs)) := same_new q3
  refine ⟨upd G p (.lst vs), p, q1, sG, ⟨⟨S.gr.g.trans sG, fun b o q => ?_, S.gr.h, fun b h1 h2 => ?_⟩, S.rs.mono sG, ?_, fun ds e => by cases e⟩, .lst upd_same (RpAll.mono sG _ _ q5)⟩
  · by_cases hb : b = p
    · rw [hb, upd_same] at q; rw [hb, q4]; exact q
    · rw [upd_ne hb] at q; exact S.gr.i _ _ q
  · rw [upd_ne (fun z => mut_none h1 (by rw [z]; exact q2))]; exact S.gr.n _ h1 h2
  · obtain ⟨a, xs, h1, h2, h3, h4, h5⟩ := S.dk
    exact ⟨a, xs, h1, h2, by rw [upd_ne (fun z => by rw [z, q4] at h4; cases h4)]; exact h3, h4, h5.mono sG⟩
theorem tfor_L {fi : Ev → Option (List D)} {tb : TS} {De : Ends} {Pp : Nat → Ev → Dd → Option (List D) → Prop} (j : Nat) (h4 : j ≠ 4) (h6 : j ≠ 6) (S : LvS K P w G0 H0 G H σ ρ es lt) (hf : fi ρ = some ds) (h0 : Pp 0 ρ es lt)
    (hb : ∀ (i : Nat) d G1 H1 σ1 ρ1 es1 lt1, ds[i]? = some d → Same G G1 → LvS K P w G0 H0 G1 H1 σ1 (stE ρ1 j (some d)) es1 lt1 → Pp i ρ1 es1 lt1 →
      ∀ N : L2.St → Hp → Prop, (∀ G2 H2 σ2 ρ2 es2 lt2, Same G1 G2 → LvS K P w G0 H0 G2 H2 σ2 ρ2 es2 lt2 → Pp (i + 1) ρ2 es2 lt2 → N σ2 H2) → tb { De with nx := N, ct := N, bk := De.nx } σ1 H1)
    (hd : ∀ G1 H1 σ1 ρ1 es1 lt1, Same G G1 → LvS K P w G0 H0 G1 H1 σ1 ρ1 es1 lt1 → Pp ds.length ρ1 es1 lt1 → De.nx σ1 H1) : tFor (iD K fi) (gD K (.one j)) tb De σ H := by
  refine ⟨G, ρ, ds, S.gr.i, S.rs, hf, fun J G1 H1 g1 it => ?_⟩
  refine ⟨fun i m σ H => m = ds.length - i ∧ i ≤ ds.length ∧ ∃ G2 ρ2 es2 lt2, Same G1 G2 ∧ LvS K P w G0 H0 G2 H σ ρ2 es2 lt2 ∧ Pp i ρ2 es2 lt2, ⟨_, rfl, Nat.zero_le _, G1, ρ, es, lt, Same.refl _, S.grow g1, h0⟩, ?_⟩
  rintro i m σ2 H2 ⟨rfl, hi, G2, ρ2, es2, lt2, s2, S2, p2⟩
  by_cases hlt : i < ds.length
  · obtain ⟨hgo, hy⟩ := it.go G2 H2 i _ s2 S2.gr.i (List.getElem?_eq_getElem hlt)
    refine .inr ⟨hgo, fun σ' H' => i + 1 ≤ ds.length ∧ ∃ G3 ρ3 es3 lt3, Same G1 G3 ∧ LvS K P w G0 H0 G3 H' σ' ρ3 es3 lt3 ∧ Pp (i + 1) ρ3 es3 lt3, fun σ' H' w => ⟨ds.length - (i + 1), by omega, rfl, w⟩, fun x H' yl => ?_⟩
    obtain ⟨G3, g3, rx⟩ := hy x H' yl
    have S3 := S2.grow g3
    refine ⟨G3, ρ2, _, _, g3.i, S3.rs, rx, rfl, fun σ' rs' hw => ?_⟩
    have S4 := S3.tgt j h4 h6 rs' (hw _ fun _ z => z)
    exact hb i _ G3 H' σ' ρ2 es2 lt2 (List.getElem?_eq_getElem hlt) (g1.g.trans (s2.trans g3.g)) S4 p2 _ fun G5 H5 σ5 ρ5 es5 lt5 s5 S5 p5 => ⟨hlt, G5, ρ5, es5, lt5, s2.trans (g3.g.trans s5), S5, p5⟩
  · have ei : i = ds.length := by omega
    subst ei
    exact .inl ⟨it.stop G2 H2 s2 S2.gr.i, hd G2 H2 σ2 ρ2 es2 lt2 (g1.g.trans s2) S2 p2⟩
end
end Mv

/-! part Dk4 -/
set_option maxHeartbeats 4000000
namespace Mv
open PySem PySem.Spec L2

/-! ### _law_levels -/
theorem nth_st_ne {y : Option D} : ∀ {ρ : Ev} {i j : Nat}, i ≠ j → nth (stE ρ j y) i = nth ρ i
  | [], _, _, _ => rfl
  | _ :: _, 0, 0, h => absurd rfl h
  | _ :: _, _ + 1, 0, _ => rfl
  | _ :: _, 0, _ + 1, _ => rfl
  | _ :: r, i + 1, j + 1, h => nth_st_ne (ρ := r) fun z => h (congrArg (· + 1) z)
theorem nth_st_eq {y : Option D} : ∀ {ρ : Ev} {j : Nat}, j < ρ.length → nth (stE ρ j y) j = y
  | [], _, h => by simp at h
  | _ :: _, 0, _ => rfl
  | _ :: r, j + 1, h => nth_st_eq (ρ := r) (by simpa using h)
def At (n : Nat) (ρ : Ev) (fs : List (Nat × D)) : Prop := ρ.length = n ∧ ∀ i d, (i, d) ∈ fs → nth ρ i = some d
theorem At.set {n : Nat} {ρ : Ev} {fs : List (Nat × D)} {j : Nat} {y : Option D} (a : At n ρ fs) (h : (fs.all fun p => p.1 != j) = true) : At n (stE ρ j y) fs :=
  ⟨by rw [stE_len]; exact a.1, fun i d hm => by
    have := List.all_eq_true.mp h _ hm
    rw [nth_st_ne (by simpa using this)]
    exact a.2 i d hm⟩
theorem At.add {n : Nat} {ρ : Ev} {fs : List (Nat × D)} {j : Nat} {d : D} (a : At n ρ fs) (hj : j < n) (h : (fs.all fun p => p.1 != j) = true) : At n (stE ρ j (some d)) ((j, d) :: fs) :=
  ⟨by rw [stE_len]; exact a.1, fun i e hm => by
    rcases List.mem_cons.mp hm with z | hm
    · cases z; exact nth_st_eq (by rw [a.1]; exact hj)
    · exact (a.set h).2 i e hm⟩
theorem At.sub {n : Nat} {ρ : Ev} {fs gs : List (Nat × D)} (a : At n ρ fs) (h : ∀ p ∈ gs, p ∈ fs) : At n ρ gs := ⟨a.1, fun i d hm => a.2 i d (h _ hm)⟩
def foldO {α β : Type} (f : β → α → Option β) : List α → β → Option β
  | [], b => some b
  | a :: as, b => (match f b a with
    | some b' => foldO f as b'
    | none => none)
def keyT : D → Option NestedKey
  | .tuple xs => keyN 8 (.tuple xs)
  | _ => none
theorem keyT_some {d : D} {k : NestedKey} (h : keyT d = some k) : keyN 8 d = some k ∧ ∃ xs, d = .tuple xs := by
  unfold keyT at h
  split at h
  · exact ⟨h, _, rfl⟩
  · cases h
def lvNew (lap : Int) (own : D) (k : NestedKey) (st : Dd × List D) : Dd × List D :=
  match (lookE st.1 k).isSome with
  | true => st
  | false => (putE st.1 k own (lap + 1, 0), st.2 ++ [own])
def lvAdd (lap : Int) (own : D) (k ks : NestedKey) (st : Dd × List D) : Option (Dd × List D) :=
  match lookE st.1 k with
  | some (l, c) => (match decide (l = lap + 1) with
    | true => (match lookE st.1 ks with
      | some (_, c') => some (putE st.1 k own (lap + 1, c + c'), st.2)
      | none => none)
    | false => some st)
  | none => none
def lvIn (lap : Int) (spot : D) (st : Dd × List D) (m : D) : Option (Dd × List D) :=
  match Nat.ble st.1.length 60000 && Nat.ble st.2.length 60000 with
  | true => (match F_law_step [spot, m] with
    | some own => (match keyT own with
      | some k => (match keyT spot with
        | some ks => lvAdd lap own k ks (lvNew lap own k st)
        | none => none)
      | none => none)
    | none => none)
  | false => none
def lvSpot (lap : Int) (steps : List D) (st : Dd × List D) (spot : D) : Option (Dd × List D) := foldO (lvIn lap spot) steps st
def lvLap (steps : List D) (st : Dd × List D) (lap : D) : Option (Dd × List D) := match lap with
  | .int i => foldO (lvSpot i steps) st.2 (st.1, [])
  | _ => none
def levelsD (first : D) (steps : List D) (n : Nat) : Option Dd := match keyT first with
  | some _ => (match foldO (lvLap steps) (intsD n) ([(first, 0, 1)], [first]) with
    | some st => some st.1
    | none => none)
  | none => none
section
variable {K : PySem.W.Frag} {P : Program} {w : World} {G0 H0 G H G1 H1 : Hp} {σ σ' : L2.St} {ρ ρ' : Ev} {es : Dd} {lt : Option (List D)} {ds : List D} {v : V} {d kd : D} {k : NestedKey} {l c : Int} {Q : VK}
theorem key_ref (h : keyN 8 kd = some k) (r : Rp K G v kd) (hf : ∃ xs, kd = .tuple xs) : ∃ b, v = .ref b := by
  obtain ⟨xs, rfl⟩ := hf
  cases r with
  | tup h1 h2 => exact ⟨_, rfl⟩
theorem tc_D (f : Ev → Option D) (S : LvS K P w G0 H0 G H σ ρ es lt) (h : f ρ = some d) (q : ∀ v G' H', Grow G H G' H' → Rp K G' v d → Q v H') : tD K f σ H Q := ⟨G, ρ, d, S.gr.i, S.rs, h, q⟩
/-- found[name] -/
theorem t_get {i : Nat} (S : LvS K P w G0 H0 G H σ ρ es lt) (h : nth ρ i = some kd) (ht : ∃ xs, kd = .tuple xs) (hk : keyN 8 kd = some k) (hl : lookE es k = some (l, c)) (q : ∀ v G' H', Grow G H G' H' → Rp K G' v (lc l c) → Q v H') :
    tKGet K P w (tVar 4) (tD K (vE i)) σ H Q := by
  obtain ⟨a, xs, h1, h2, h3, h4, h5⟩ := S.dk
  refine ⟨.ref a, h1, tc_D (vE i) S h fun y G1 H1 g1 r1 => ?_⟩
  have S1 := S.grow g1
  obtain ⟨b, rfl⟩ := key_ref hk r1 ht
  rcases (h5.mono g1.g).look k with ⟨_, z⟩ | ⟨v, l', c', e1, e2, rv⟩
  · rw [hl] at z; cases z
  · rw [hl] at e2; cases e2
    exact ⟨a, xs, k, v, rfl, ⟨.inl (g1.h _ _ h4), (h5.mono g1.g).keys g1.i, b, kd, rfl, hk, Rp.mono g1.i _ _ r1⟩, e1, q v G1 H1 g1 rv⟩
/-- name not in found -/
theorem t_notIn {i : Nat} (S : LvS K P w G0 H0 G H σ ρ es lt) (h : nth ρ i = some kd) (ht : ∃ xs, kd = .tuple xs) (hk : keyN 8 kd = some k) (q : ∀ G' H', Grow G H G' H' → Q (.bl (!(lookE es k).isSome)) H') : tOp (rKIn K P w true) (tD K (vE i)) (tVar 4) σ H Q := by
  obtain ⟨a, xs, h1, h2, h3, h4, h5⟩ := S.dk
  refine tc_D (vE i) S h fun y G1 H1 g1 r1 => ⟨.ref a, h1, a, xs, k, rfl, ?_, ?_⟩
  · obtain ⟨b, rfl⟩ := key_ref hk r1 ht
    exact ⟨.inl (g1.h _ _ h4), (h5.mono g1.g).keys g1.i, b, kd, rfl, hk, Rp.mono g1.i _ _ r1⟩
  · have e : (lookK xs k).isSome = (lookE es k).isSome := by
      rcases h5.look k with ⟨e1, e2⟩ | ⟨_, _, _, e1, e2, _⟩ <;> rw [e1, e2] <;> rfl
    show Q (.bl (!(lookK xs k).isSome)) H1
    rw [e]; exact q G1 H1 g1
/-- found[name] = .. -/
theorem t_put {i : Nat} {tv : TE} {De : Ends} (S : LvS K P w G0 H0 G H σ ρ es lt) (h : nth ρ i = some kd) (ht : ∃ xs, kd = .tuple xs) (hk : keyN 8 kd = some k) (hn : es.length ≤ 65000)
    (hv : ∀ Q, (∀ v G1 H1, Grow G H G1 H1 → Rp K G1 v (lc l c) → Q v H1) → tv σ H Q) (q : ∀ G' H', Same G G' → LvS K P w G0 H0 G' H' σ ρ (putE es k kd (l, c)) lt → De.nx σ H') : sKPut K P w (tVar 4) (tD K (vE i)) tv De σ H := by
  refine hv _ fun v G1 H1 g1 rv => ?_
  have S1 := S.grow g1
  obtain ⟨a, xs, h1, h2, h3, h4, h5⟩ := S1.dk
  refine ⟨.ref a, h1, tc_D (vE i) S1 h fun y G2 H2 g2 r2 => ?_⟩
  obtain ⟨b, rfl⟩ := key_ref hk r2 ht
  have S2 := S1.grow g2
  have h4' := g2.h _ _ h4
  have h5' := h5.mono g2.g
  refine ⟨a, xs, k, b, kd, rfl, h4', h5'.keys g2.i, rfl, hk, Rp.mono g2.i _ _ r2, ?_, q G2 _ (g1.g.trans g2.g) (S2.put h1 h4' h5' hk r2 (Rp.mono g2.g _ _ rv))⟩
  rw [h5'.length]
  exact Nat.lt_of_le_of_lt hn (by decide)
/-- a pair of whole numbers -/
theorem t_pair {ta tb : TE} (ha : ∀ Q, (∀ G1 H1, Grow G H G1 H1 → Q (.int l) H1) → ta σ H Q) (hb : ∀ G1 H1, Grow G H G1 H1 → ∀ Q, (∀ G2 H2, Grow G1 H1 G2 H2 → Q (.int c) H2) → tb σ H1 Q) (q : ∀ v G1 H1, Grow G H G1 H1 → Rp K G1 v (lc l c) → Q v H1) :
    tTup (tCons ta (tCons tb tNil)) σ H Q := by
  refine ha _ fun G1 H1 g1 => hb G1 H1 g1 _ fun G2 H2 g2 => ⟨by show 2 ≤ sizeLine; decide, fun p hp => ?_⟩
  exact q _ _ _ ((g1.trans g2).trans (.new g2.i hp)) (.tup (.inl (.inl upd_same)) (.cons (.int l) (.cons (.int c) .nil)))
/-- found[name][0 or 1] -/
theorem t_fld {i : Nat} {j : Int} {z : Int} (S : LvS K P w G0 H0 G H σ ρ es lt) (h : nth ρ i = some kd) (ht : ∃ xs, kd = .tuple xs) (hk : keyN 8 kd = some k) (hl : lookE es k = some (l, c)) (hz : dIx (lc l c) (.int j) = some (.int z))
    (q : ∀ G' H', Grow G H G' H' → Q (.int z) H') : tOp (rD2 K dIx) (tKGet K P w (tVar 4) (tD K (vE i))) (tD K (cE (.int j))) σ H Q := by
  refine t_get S h ht hk hl fun v G1 H1 g1 r1 => ?_
  refine tc_D (cE (.int j)) (S.grow g1) rfl fun y G2 H2 g2 r2 => ?_
  refine ⟨G2, lc l c, .int j, .int z, g2.i, Rp.mono g2.g _ _ r1, r2, hz, fun u G3 H3 g3 r3 => ?_⟩
  cases r3
  exact q G3 H3 (g1.trans (g2.trans g3))
theorem t_lap {lap : Int} (S : LvS K P w G0 H0 G H σ ρ es lt) (h : nth ρ 3 = some (.int lap)) (q : ∀ G' H', Grow G H G' H' → Q (.int (lap + 1)) H') : tD K (o2 dAdd (vE 3) (cE (.int 1))) σ H Q := by
  refine tc_D _ S (d := .int (lap + 1)) ?_ fun v G' H' g r => ?_
  · show (match vE 3 ρ with | some x => (match cE (.int 1) ρ with | some y => dAdd x y | none => none) | none => none) = _
    unfold vE cE
    rw [h]; rfl
  · cases r; exact q G' H' g
theorem dEq_int (i j : Int) : dEq (.int i) (.int j) = some (.bool (decide (i = j))) := rfl
/-- the second if of the innermost loop -/
theorem lv_second {lap : Int} {own spot : D} {k ks : NestedKey} {later later4 : List D} {es6 : Dd} {De : Ends} (S : LvS K P w G0 H0 G H σ ρ es (some later)) (h3 : nth ρ 3 = some (.int lap)) (h9 : nth ρ 9 = some own) (h7 : nth ρ 7 = some spot)
    (ht : ∃ xs, own = .tuple xs) (hk : keyN 8 own = some k) (hts : ∃ xs, spot = .tuple xs) (hks : keyN 8 spot = some ks) (hn : es.length ≤ 65000) (hf : lvAdd lap own k ks (es, later) = some (es6, later4))
    (q : ∀ G' H', Same G G' → LvS K P w G0 H0 G' H' σ ρ es6 (some later4) → De.nx σ H') :
    tIfS (tTest (tOp (rD2 K dEq) (tOp (rD2 K dIx) (tKGet K P w (tVar 4) (tD K (vE 9))) (tD K (cE (.int 0)))) (tD K (o2 dAdd (vE 3) (cE (.int 1))))))
      (sKPut K P w (tVar 4) (tD K (vE 9)) (tTup (tCons (tD K (o2 dAdd (vE 3) (cE (.int 1)))) (tCons (tOp (rD2 K dAdd) (tOp (rD2 K dIx) (tKGet K P w (tVar 4) (tD K (vE 9))) (tD K (cE (.int 1)))) (tOp (rD2 K dIx) (tKGet K P w (tVar 4) (tD K (vE 7))) (tD K (cE (.int 1))))) tNil)))) tNext De σ H := by
  unfold lvAdd at hf
  split at hf
  · next l c hl =>
    have hl' : lookE es k = some (l, c) := hl
    refine t_fld S h9 ht hk hl' (z := l) rfl fun G1 H1 g1 => ?_
    refine t_lap (S.grow g1) h3 fun G2 H2 g2 => ?_
    have S2 := (S.grow g1).grow g2
    refine ⟨G2, .int l, .int (lap + 1), .bool (decide (l = lap + 1)), g2.i, .int _, .int _, dEq_int _ _, fun v G3 H3 g3 r3 => ?_⟩
    cases r3
    refine ⟨_, rfl, ?_⟩
    have S3 := S2.grow g3
    split at hf
    · next hd =>
      rw [hd]
      refine iteT ?_
      split at hf
      · next l' c' hl2 =>
        have hl2' : lookE es ks = some (l', c') := hl2
        cases hf
        refine t_put S3 h9 ht hk hn (fun Q hQ => ?_) fun G' H' s' S' => q G' H' (g1.g.trans (g2.g.trans (g3.g.trans s'))) S'
        refine t_pair (G := G3) (fun Q hQ => t_lap S3 h3 hQ) (fun G4 H4 g4 Q hQ => ?_) hQ
        have S4 := S3.grow g4
        refine t_fld S4 h9 ht hk hl' (z := c) rfl fun G5 H5 g5 => ?_
        refine t_fld (S4.grow g5) h7 hts hks hl2' (z := c') rfl fun G6 H6 g6 => ?_
        exact ⟨G6, .int c, .int c', .int (c + c'), g6.i, .int _, .int _, rfl, fun v G7 H7 g7 r7 => by cases r7; exact hQ G7 H7 (g5.trans (g6.trans g7))⟩
      · cases hf
    · next hd =>
      rw [hd]
      cases hf
      exact iteF (q G3 H3 (g1.g.trans (g2.g.trans g3.g)) S3)
  · cases hf
end
end Mv

/-! part Dk5 -/
set_option maxHeartbeats 4000000
namespace Mv
open PySem PySem.Spec L2
section
variable {P : Program} {w : World} {K : PySem.W.Frag} {mg : Str → Option Value} {base : Heap}
/-- what _law_levels promises -/
def spLev (K : PySem.W.Frag) (P : Program) (w : World) : Sp := fun vs H Q _ => ∃ G first steps n es, Same G H ∧ RpAll K G vs [first, .list steps, .int (n : Nat)] ∧ n ≤ 65536 ∧ levelsD first steps n = some es ∧
  ∀ a xs G' H', Grow G H G' H' → H a = none → G' a = none → H' a = some (DkO P w a xs) → EntD K G' xs es → Q (.ref a) H'
def N_levels : List Str := ["_law_first_so", "_law_steps_so", "_law_most_so", "_law_lap", "_law_found", "_law_row_so", "_law_later_so", "_law_spot", "_law_step_here", "_law_own"]
theorem sc_law_levels : FnScope N_levels ["_law_first_so", "_law_steps_so", "_law_most_so"] (defScope (topS 73)) := ⟨rfl, rfl, rfl, by decide +kernel, rfl, by decide +kernel, by decide +kernel⟩
theorem foldO_cons {α β : Type} {f : β → α → Option β} {a : α} {as : List α} {b r : β} (h : foldO f (a :: as) b = some r) : ∃ b', f b a = some b' ∧ foldO f as b' = some r := by
  unfold foldO at h
  split at h
  · next b' e => exact ⟨b', e, h⟩
  · cases h
theorem foldO_drop {α β : Type} {f : β → α → Option β} {as : List α} {i : Nat} {a : α} {b r : β} (hi : as[i]? = some a) (h : foldO f (as.drop i) b = some r) : ∃ b', f b a = some b' ∧ foldO f (as.drop (i + 1)) b' = some r := by
  obtain ⟨hl, e⟩ := List.getElem?_eq_some_iff.mp hi
  rw [List.drop_eq_getElem_cons hl, e] at h
  exact foldO_cons h
theorem cal_law_levels (B : Bt mg) (F : Df K mg "_law_levels" (topS 73) ["_law_first_so", "_law_steps_so", "_law_most_so"]) (c__law_step : Cal P w K mg base 3 "_law_step" F_law_step) :
    ∃ (f : Addr) (fd : FuncData) (ps : List Str), FnOk P w K mg base CX0 4 f fd ps (spLev K P w) ∧ mg "_law_levels" = some (.ref f) ∧ PySem.W.keepIn K (.ref f) = true ∧ Binds K fd ps [] := by
  obtain ⟨f, fd, F, hm, hbi⟩ := F.ex
  refine ⟨f, fd, _, ?_, hm, F.kp, hbi⟩
  refine F.ok sc_law_levels (fun vs H Q E h => ?_) (fun cdv A outer s H vs Q E hr h => ?_)
  · obtain ⟨G, d, st, n, es, _, r, _⟩ := h
    rw [r.length]; rfl
  have nd := sc_law_levels.nd
  refine ⟨_, pss_cons (ps_par (i := 4) (j := 5) rfl nd rfl rfl (by decide) rfl rfl (pa_cons (pe_kdisp hr.units (xv 0 rfl (Or.inl rfl)) (xtup (ac xc_int (ac xc_int an)))) (pa_cons (pe_lst (pa_cons (xv 0 rfl (Or.inl rfl)) pa_nil)) pa_nil)) rfl)
    (pss_cons (ps_for PassesOwn.never rfl (irange B.range_ rfl (xv 2 rfl (Or.inl rfl))) (g1 (i := 3) nd rfl (Or.inl rfl))
      (pss_cons (ps_set (i := 6) nd rfl (Or.inl rfl) (pe_lst pa_nil))
        (pss_cons (ps_for PassesOwn.never rfl (iseq (xv 5 rfl (Or.inl rfl))) (g1 (i := 7) nd rfl (Or.inl rfl))
            (pss_one (ps_for PassesOwn.never rfl (iseq (xv 1 rfl (Or.inl rfl))) (g1 (i := 8) nd rfl (Or.inl rfl))
              (pss_cons (ps_set (i := 9) nd rfl (Or.inl rfl) (xcall c__law_step hr (by decide) rfl (ac (xv 7 rfl (Or.inl rfl)) (ac (xv 8 rfl (Or.inl rfl)) an))))
                (pss_cons (ps_if (pt_cmpR (op_knotIn hr.units) (xv 9 rfl (Or.inl rfl)) (pe_var (i := 4) rfl (Or.inl rfl)) rfl)
                    (pss_cons (ps_kput hr.units (pe_var (i := 4) rfl (Or.inl rfl)) (xv 9 rfl (Or.inl rfl)) (pe_tup (pa_cons (xo2 op_dAdd (xv 3 rfl (Or.inl rfl)) xc_int) (pa_cons xc_int pa_nil))))
                      (pss_one (ps_expr (pe_bm PySem.F.plainAttrs_list PySem.F.slot_list_append PySem.F.type_list_append mt_append (pe_var (i := 6) rfl (Or.inl rfl)) (pa_cons (xv 9 rfl (Or.inl rfl)) pa_nil)))))
                    pss_nil)
                  (pss_one (ps_if (pt_cmpR (op_dEq hr.units) (pe_ix ix_D (pe_kget hr.units (pe_var (i := 4) rfl (Or.inl rfl)) (xv 9 rfl (Or.inl rfl))) xc_int (fun _ _ => rfl)) (xo2 op_dAdd (xv 3 rfl (Or.inl rfl)) xc_int) (nomark _))
                    (pss_one (ps_kput hr.units (pe_var (i := 4) rfl (Or.inl rfl)) (xv 9 rfl (Or.inl rfl)) (pe_tup (pa_cons (xo2 op_dAdd (xv 3 rfl (Or.inl rfl)) xc_int)
                      (pa_cons (pe_op op_dAdd (pe_ix ix_D (pe_kget hr.units (pe_var (i := 4) rfl (Or.inl rfl)) (xv 9 rfl (Or.inl rfl))) xc_int (fun _ _ => rfl)) (pe_ix ix_D (pe_kget hr.units (pe_var (i := 4) rfl (Or.inl rfl)) (xv 7 rfl (Or.inl rfl))) xc_int (fun _ _ => rfl))) pa_nil)))))
                    pss_nil)))))))
          (pss_one (ps_set (i := 5) nd rfl (Or.inl rfl) (pe_var (i := 6) rfl (Or.inl rfl)))))))
      (pss_one (ps_ret (pe_var (i := 4) rfl (Or.inl rfl))))), ?_⟩
  obtain ⟨G, first, steps, n, es, e, ra, hn, hl, q⟩ := h
  have hu0 : vs = vs := rfl
  cases ra with
  | @cons v0 _ _ _ r0 ra =>
  cases ra with
  | @cons v1 _ _ _ r1 ra =>
  cases ra with
  | @cons v2 _ _ _ r2 ra =>
  cases ra
  unfold levelsD at hl
  split at hl
  · next kf hkf =>
    split at hl
    · next st hst =>
      cases hl
      obtain ⟨hk0, ht0⟩ := keyT_some hkf
      have rs0 : Rs K G (L2.start N_levels [v0, v1, v2]) (padE [first, .list steps, .int (n : Nat)] 10) := rs_start (.cons r0 (.cons r1 (.cons r2 .nil))) (by show 3 ≤ 10; decide)
      have at0 : At 10 (padE [first, .list steps, .int (n : Nat)] 10) [(1, .list steps), (2, .int (n : Nat))] := ⟨rfl, fun i d hm => by
        simp only [List.mem_cons, List.not_mem_nil, or_false, Prod.mk.injEq] at hm
        rcases hm with ⟨rfl, rfl⟩ | ⟨rfl, rfl⟩ <;> rfl⟩
      have fr0 : nth (padE [first, .list steps, .int (n : Nat)] 10) 0 = some first := rfl
      generalize hρ : padE [first, .list steps, .int (n : Nat)] 10 = ρ at rs0 at0 fr0
      generalize hσ : L2.start N_levels [v0, v1, v2] = σ at rs0
      have hlen : σ.length = 10 := by rw [rs0.len]; exact at0.1
      -- the first line
      intro p hp
      have gp := Grow.side (p := p) (o := DkO P w p []) e hp
      refine ⟨G, ρ, first, gp.i, rs0, fr0, fun y G1 H1 g1 ry => ?_⟩
      refine ⟨G1, ρ, lc 0 1, g1.i, rs0.mono g1.g, rfl, fun v G2 H2 g2 rv => ?_⟩
      obtain ⟨b, rfl⟩ := key_ref hk0 ry ht0
      have hp2 : H2 p = some (DkO P w p []) := g2.h _ _ (g1.h _ _ upd_same)
      have gp2 : G2 p = none := g2.n p (by rw [g1.h _ _ upd_same]; trivial) (g1.n p (by rw [upd_same]; trivial) (e.free hp))
      refine ⟨kf, b, first, hp2, rfl, hk0, Rp.mono (g2.g.trans g2.i) _ _ ry, ?_⟩
      have g3 : Grow G H G2 (upd H2 p (DkO P w p [(kf, b, v)])) := ⟨g1.g.trans g2.g, fun c o hc => by
        rw [upd_ne (fun z => by rw [z, gp2] at hc; cases hc)]; exact g2.i _ _ hc, fun c o hc => by
        rw [upd_ne (fun z => by rw [z, hp] at hc; cases hc)]; exact g2.h _ _ (g1.h _ _ (by rw [upd_ne (fun z => by rw [z, hp] at hc; cases hc)]; exact hc)), fun c h1 h2 => by
        have h1' : Mut (upd H p (DkO P w p []) c) := by
          rw [upd_ne (fun z => mut_none h1 (by rw [z]; exact hp))]; exact h1
        exact g2.n c (mut_same g1.h h1') (g1.n c h1' h2)⟩
      refine ⟨G2, ρ, first, g3.i, rs0.mono g3.g, fr0, fun y2 G3 H3 g4 ry2 => ⟨by show 1 ≤ sizeLine; decide, fun r hr3 => ⟨_, _, rfl, ?_⟩⟩⟩
      have g5 := g4.trans (Grow.new (p := r) (o := .lst [y2]) g4.i hr3)
      have g6 := g3.trans g5
      have rr : Rp K (upd G3 r (.lst [y2])) (.ref r) (.list [first]) := .lst upd_same (.cons (Rp.mono (same_new (g4.i.free hr3)) _ _ ry2) .nil)
      have hp3 : (upd H3 r (.lst [y2])) p = some (DkO P w p [(kf, b, v)]) := g5.h _ _ upd_same
      have gp3 : (upd G3 r (.lst [y2])) p = none := g5.n p (by rw [upd_same]; trivial) gp2
      have S0 : LvS K P w G H (upd G3 r (.lst [y2])) (upd H3 r (.lst [y2])) ((σ.set 4 (some (.ref p))).set 5 (some (.ref r))) (stE (stE ρ 4 none) 5 (some (.list [first]))) [(first, 0, 1)] none := by
        refine ⟨g6, ((rs0.mono g6.g).unset 4 _).set 5 rr, ⟨p, _, ?_, hp, gp3, hp3, .cons ⟨hk0, Rp.mono (g2.g.trans g5.g) _ _ ry, Rp.mono g5.g _ _ rv⟩ .nil⟩, fun ds z => by cases z⟩
        rw [List.getElem?_set_ne (by decide), List.getElem?_set_self (by omega)]
      have at1 := (at0.set (j := 4) (y := none) rfl).add (j := 5) (d := .list [first]) (by decide) rfl
      -- the laps
      refine tfor_L 3 (by decide) (by decide) S0 (ds := intsD n) (Pp := fun i ρ es lt => ∃ row, At 10 ρ [(5, .list row), (1, .list steps), (2, .int (n : Nat))] ∧ foldO (lvLap steps) ((intsD n).drop i) (es, row) = some st)
        ?_ ⟨[first], at1, by rw [List.drop_zero]; exact hst⟩ ?_ ?_
      · unfold rngE vE
        rw [at1.2 2 (.int (n : Nat)) (by simp)]
        have : (decide ((0 : Int) ≤ (n : Nat)) && decide (((n : Nat) : Int) ≤ 65536)) = true := by
          rw [Bool.and_eq_true, decide_eq_true_eq, decide_eq_true_eq]; omega
        show (match decide ((0 : Int) ≤ (n : Nat)) && decide (((n : Nat) : Int) ≤ 65536) with | true => some (intsD ((n : Nat) : Int).toNat) | false => none) = _
        rw [this]; rfl
      · rintro i d G1 H1 σ1 ρ1 es1 lt1 hi sg S1 ⟨row, a1, hf⟩ N hN
        obtain ⟨⟨es2, row2⟩, hb, hf'⟩ := foldO_drop hi hf
        obtain ⟨lap, rfl⟩ : ∃ lap : Int, d = .int lap := by
          rw [intsD_get] at hi
          split at hi
          · cases hi; exact ⟨_, rfl⟩
          · cases hi
        have hb' : foldO (lvSpot lap steps) row (es1, []) = some (es2, row2) := hb
        have a2 := a1.add (j := 3) (d := .int lap) (by decide) rfl
        have l1 : σ1.length = 10 := by rw [S1.rs.len]; exact a2.1
        -- later = []
        refine ⟨by show 0 ≤ sizeLine; decide, fun p1 hp1 => ?_⟩
        have S2 := S1.row (by omega) hp1
        have a3 := a2.set (j := 6) (y := none) rfl
        -- the spots
        refine tfor_L 7 (by decide) (by decide) S2 (ds := row) (Pp := fun i ρ es lt => ∃ later, lt = some later ∧ At 10 ρ [(3, .int lap), (5, .list row), (1, .list steps), (2, .int (n : Nat))] ∧ foldO (lvSpot lap steps) (row.drop i) (es, later) = some (es2, row2))
          ?_ ⟨[], rfl, a3, by rw [List.drop_zero]; exact hb'⟩ ?_ ?_
        · show seqE (vE 5) _ = _
          unfold seqE vE
          rw [a3.2 5 (.list row) (by simp)]; rfl
        · rintro i2 spot G2 H2 σ2 ρ2 es3 lt3 hi2 sg2 S3 ⟨later, rfl, a4, hf2⟩ N2 hN2
          obtain ⟨⟨es4, later2⟩, hb2, hf2'⟩ := foldO_drop hi2 hf2
          have a5 := a4.add (j := 7) (d := spot) (by decide) rfl
          -- the steps
          refine tfor_L 8 (by decide) (by decide) S3 (ds := steps) (Pp := fun i ρ es lt => ∃ later, lt = some later ∧ At 10 ρ [(7, spot), (3, .int lap), (5, .list row), (1, .list steps), (2, .int (n : Nat))] ∧ foldO (lvIn lap spot) (steps.drop i) (es, later) = some (es4, later2))
            ?_ ⟨later, rfl, a5, by rw [List.drop_zero]; exact hb2⟩ ?_ ?_
          · show seqE (vE 1) _ = _
            unfold seqE vE
            rw [a5.2 1 (.list steps) (by simp)]; rfl
          · rintro i3 m G3 H3 σ3 ρ3 es5 lt5 hi3 sg3 S4 ⟨later3, rfl, a6, hf3⟩ N3 hN3
            obtain ⟨⟨es6, later4⟩, hb3, hf3'⟩ := foldO_drop hi3 hf3
            have a7 := a6.add (j := 8) (d := m) (by decide) rfl
            unfold lvIn at hb3
            split at hb3
            · next hsz =>
              rw [Bool.and_eq_true] at hsz
              have hz1 : es5.length ≤ 60000 := Nat.le_of_ble_eq_true hsz.1
              have hz2 := Nat.le_of_ble_eq_true hsz.2
              split at hb3
              · next own ho =>
                split at hb3
                · next k hk =>
                  split at hb3
                  · next ks hks =>
                    obtain ⟨hk1, ht1⟩ := keyT_some hk
                    obtain ⟨hk2, ht2⟩ := keyT_some hks
                    -- own = ..
                    refine tc_D _ S4 (d := own) ?_ fun v4 G4 H4 g7 r7 => ?_
                    · show aE F_law_step (consA (vE 7) (consA (vE 8) nilA)) _ = _
                      unfold aE consA nilA vE
                      rw [a7.2 7 spot (by simp), a7.2 8 m (by simp)]
                      exact ho
                    have S5 := (S4.grow g7).set 9 (by decide) (by decide) r7
                    have a8 := a7.add (j := 9) (d := own) (by decide) rfl
                    have e9 : nth (stE (stE ρ3 8 (some m)) 9 (some own)) 9 = some own := a8.2 9 own (by simp)
                    have e3 : nth (stE (stE ρ3 8 (some m)) 9 (some own)) 3 = some (.int lap) := a8.2 3 _ (by simp)
                    have e7 : nth (stE (stE ρ3 8 (some m)) 9 (some own)) 7 = some spot := a8.2 7 _ (by simp)
                    have done : ∀ {G5 G6 H6}, Same G3 G5 → Same G5 G6 → LvS K P w G H G6 H6 (σ3.set 9 (some v4)) (stE (stE ρ3 8 (some m)) 9 (some own)) es6 (some later4) → N3 (σ3.set 9 (some v4)) H6 := fun {G5 G6 H6} s5 s6 S6 =>
                      hN3 G6 H6 _ _ es6 _ (s5.trans s6) S6 ⟨later4, rfl, a8.sub (by simp), hf3'⟩
                    refine t_notIn S5 e9 ht1 hk1 fun G5 H5 g8 => ⟨_, rfl, ?_⟩
                    have S6 := S5.grow g8
                    have s36 : Same G3 G5 := g7.g.trans g8.g
                    unfold lvNew at hb3
                    cases hin : (lookE es5 k).isSome with
                    | true =>
                      have hin' : (lookE (es5, later3).1 k).isSome = true := hin
                      rw [hin'] at hb3
                      refine iteF ?_
                      exact lv_second S6 e3 e9 e7 ht1 hk1 ht2 hk2 (by omega) hb3 fun G' H' s' S' => done s36 s' S'
                    | false =>
                      have hin' : (lookE (es5, later3).1 k).isSome = false := hin
                      rw [hin'] at hb3
                      refine iteT ?_
                      refine t_put (l := lap + 1) (c := 0) S6 e9 ht1 hk1 (by omega) (fun Q hQ => ?_) fun G6 H6 s6 S7 => ?_
                      · exact t_pair (G := G5) (fun Q hQ => t_lap S6 e3 hQ) (fun G6 H6 g6 Q hQ => tc_D _ (S6.grow g6) (d := .int 0) rfl fun v G7 H7 g7 r7 => by cases r7; exact hQ G7 H7 g7) hQ
                      · obtain ⟨l6, vs6, q1, q2, q3, q4, q5⟩ := S7.lt _ rfl
                        refine ⟨.ref l6, q1, .inl ⟨rfl, _, .inl (.inl q4)⟩, tc_D (vE 9) S7 e9 fun v8 G7 H7 g9 r9 => ?_⟩
                        have S8 := S7.grow g9
                        have hl6 := g9.h _ _ q4
                        refine ⟨l6, vs6, v8, rfl, rfl, hl6, by rw [q5.length]; exact Nat.lt_of_le_of_lt hz2 (by decide), ?_⟩
                        refine lv_second (S8.app q1 hl6 r9) e3 e9 e7 ht1 hk1 ht2 hk2 ?_ hb3 fun G' H' s' S' => done s36 ((s6.trans g9.g).trans s') S'
                        have : (putE es5 k own (lap + 1, 0)).length ≤ es5.length + 1 := by
                          unfold putE
                          split
                          · rw [List.length_map]; omega
                          · rw [List.length_append]; exact Nat.le_refl _
                        have hz1' : es5.length ≤ 60000 := hz1
                        omega
                  · cases hb3
                · cases hb3
              · cases hb3
            · cases hb3
          · rintro G3 H3 σ3 ρ3 es5 lt5 sg3 S4 ⟨later3, rfl, a6, hf3⟩
            rw [List.drop_length] at hf3
            cases hf3
            exact hN2 G3 H3 σ3 ρ3 es4 _ sg3 S4 ⟨later2, rfl, a6.sub (by simp), hf2'⟩
        · rintro G2 H2 σ2 ρ2 es3 lt3 sg2 S3 ⟨later, rfl, a4, hf2⟩
          rw [List.drop_length] at hf2
          cases hf2
          obtain ⟨G3, p3, hp3', sg3, S4, rrow⟩ := S3.data
          refine ⟨.ref p3, hp3', ?_⟩
          exact hN G3 H2 _ _ es2 none (sg2.trans sg3) (S4.set 5 (by decide) (by decide) rrow) ⟨row2, (((a4.sub (gs := [(1, .list steps), (2, .int (n : Nat))]) (by simp)).add (j := 5) (d := .list row2) (by decide) rfl)), hf'⟩
      · rintro G1 H1 σ1 ρ1 es1 lt1 sg S1 ⟨row, a1, hf⟩
        rw [← intsD_len n, List.drop_length] at hf
        cases hf
        obtain ⟨a, xs, h1, h2, h3, h4, h5⟩ := S1.dk
        exact ⟨.ref a, h1, q a xs G1 H1 S1.gr h2 h3 h4 h5⟩
    · cases hl
  · cases hl
end
end Mv

/-! part Dk6 -/
set_option maxHeartbeats 4000000
namespace Mv
open PySem PySem.Spec L2

/-! ### locked dicts in slots; _law_meet -/
/-- slot j holds a locked dict -/
def DkS (K : PySem.W.Frag) (P : Program) (w : World) (G : Hp) (σ : L2.St) (j : Nat) (es : Dd) : Prop := ∃ a o xs, σ[j]? = some (some (.ref a)) ∧ Fz P w G a o xs ∧ EntD K G xs es
section
variable {K : PySem.W.Frag} {P : Program} {w : World} {G0 H0 G H G' H' : Hp} {σ σ' : L2.St} {ρ ρ' : Ev} {es fs : Dd} {j i : Nat} {kd d : D} {k : NestedKey} {l c : Int} {Q : VK} {v : V}
theorem DkS.mono (h : DkS K P w G σ j es) (e : Same G G') : DkS K P w G' σ j es := by
  obtain ⟨a, o, xs, h1, h2, h3⟩ := h
  exact ⟨a, o, xs, h1, e _ _ h2, h3.mono e⟩
theorem DkS.at_ (h : DkS K P w G σ j es) (e : σ'[j]? = σ[j]?) : DkS K P w G σ' j es := by
  obtain ⟨a, o, xs, h1, h2⟩ := h
  exact ⟨a, o, xs, e.trans h1, h2⟩
theorem get_wipe (i j : Nat) (hw : wipe σ' [j] = wipe σ [j]) (h : i ≠ j) : σ'[i]? = σ[i]? := by
  have e1 := wipe_get σ' i [j]
  have e2 := wipe_get σ i [j]
  rw [if_neg (fun z => h (by simpa using z.1))] at e1 e2
  rw [← e1, ← e2, hw]
/-- d[name], d locked at slot j -/
theorem m_get (e : Same G H) (r : Rs K G σ ρ) (S : DkS K P w G σ j es) (h : nth ρ i = some kd) (ht : ∃ xs, kd = .tuple xs) (hk : keyN 8 kd = some k) (hl : lookE es k = some (l, c)) (q : ∀ v G' H', Grow G H G' H' → Rp K G' v (lc l c) → Q v H') :
    tKGet K P w (tVar j) (tD K (vE i)) σ H Q := by
  obtain ⟨a, o, xs, h1, h2, h3⟩ := S
  refine ⟨.ref a, h1, G, ρ, kd, e, r, h, fun y G1 H1 g1 r1 => ?_⟩
  obtain ⟨b, rfl⟩ := key_ref hk r1 ht
  rcases (h3.mono g1.g).look k with ⟨_, z⟩ | ⟨v, l', c', e1, e2, rv⟩
  · rw [hl] at z; cases z
  · rw [hl] at e2; cases e2
    exact ⟨a, xs, k, v, rfl, ⟨.inr ⟨o, g1.i _ _ (g1.g _ _ h2)⟩, (h3.mono g1.g).keys g1.i, b, kd, rfl, hk, Rp.mono g1.i _ _ r1⟩, e1, q v G1 H1 g1 rv⟩
theorem m_fld {m : Int} {z : Int} (e : Same G H) (r : Rs K G σ ρ) (S : DkS K P w G σ j es) (h : nth ρ i = some kd) (ht : ∃ xs, kd = .tuple xs) (hk : keyN 8 kd = some k) (hl : lookE es k = some (l, c)) (hz : dIx (lc l c) (.int m) = some (.int z))
    (q : ∀ G' H', Grow G H G' H' → Q (.int z) H') : tOp (rD2 K dIx) (tKGet K P w (tVar j) (tD K (vE i))) (tD K (cE (.int m))) σ H Q := by
  refine m_get e r S h ht hk hl fun v G1 H1 g1 r1 => ?_
  refine ⟨G1, ρ, .int m, g1.i, r.mono g1.g, rfl, fun y G2 H2 g2 r2 => ?_⟩
  refine ⟨G2, lc l c, .int m, .int z, g2.i, Rp.mono g2.g _ _ r1, r2, hz, fun u G3 H3 g3 r3 => ?_⟩
  cases r3
  exact q G3 H3 (g1.trans (g2.trans g3))
/-- name in d -/
theorem m_in (e : Same G H) (r : Rs K G σ ρ) (S : DkS K P w G σ j es) (h : nth ρ i = some kd) (ht : ∃ xs, kd = .tuple xs) (hk : keyN 8 kd = some k) (q : ∀ G' H', Grow G H G' H' → Q (.bl (lookE es k).isSome) H') : tOp (rKIn K P w false) (tD K (vE i)) (tVar j) σ H Q := by
  obtain ⟨a, o, xs, h1, h2, h3⟩ := S
  refine ⟨G, ρ, kd, e, r, h, fun y G1 H1 g1 r1 => ⟨.ref a, h1, a, xs, k, rfl, ?_, ?_⟩⟩
  · obtain ⟨b, rfl⟩ := key_ref hk r1 ht
    exact ⟨.inr ⟨o, g1.i _ _ (g1.g _ _ h2)⟩, (h3.mono g1.g).keys g1.i, b, kd, rfl, hk, Rp.mono g1.i _ _ r1⟩
  · have e : (lookK xs k).isSome = (lookE es k).isSome := by
      rcases h3.look k with ⟨e1, e2⟩ | ⟨_, _, _, e1, e2, _⟩ <;> rw [e1, e2] <;> rfl
    show Q (.bl ((lookK xs k).isSome)) H1
    rw [e]; exact q G1 H1 g1
theorem EntD.get {xs : List Ent} (r : EntD K G xs es) : ∀ {i : Nat} {p : D × Int × Int}, es[i]? = some p → ∃ x, xs[i]? = some x ∧ Rp K G (.ref x.2.1) p.1 ∧ Rp K G x.2.2 (lc p.2.1 p.2.2) := by
  unfold EntD at r
  induction r with
  | nil => intro i p h; simp at h
  | cons h t ih =>
    intro i p e
    cases i with
    | zero => rw [List.getElem?_cons_zero] at e; cases e; exact ⟨_, rfl, h.2⟩
    | succ i => rw [List.getElem?_cons_succ] at e ⊢; exact ih e
theorem itd_kd {a : Addr} {o : Obj} {xs : List Ent} (h : Fz P w G a o xs) (r : EntD K G xs es) : ItD K (ItKd P w a o xs) (es.map (·.1)) G where
  go := fun G1 H1 i d e1 e2 hd => by
    rw [List.getElem?_map, Option.map_eq_some_iff] at hd
    obtain ⟨p, hp, rfl⟩ := hd
    obtain ⟨x, hx, r1, _⟩ := r.get hp
    refine ⟨⟨e2 _ _ (e1 _ _ h), (List.getElem?_eq_some_iff.mp hx).1⟩, fun y H' q => ?_⟩
    obtain ⟨rfl, x', hx', rfl⟩ := q
    rw [hx] at hx'; cases hx'
    exact ⟨G1, .refl e2, Rp.mono e1 _ _ r1⟩
  stop := fun G1 H1 e1 e2 => ⟨e2 _ _ (e1 _ _ h), by rw [r.length, List.length_map]; exact Nat.le_refl _⟩
theorem itd_vd {a : Addr} {o : Obj} {xs : List Ent} (h : Fz P w G a o xs) (r : EntD K G xs es) : ItD K (ItVd P w a o xs) (es.map fun p => lc p.2.1 p.2.2) G where
  go := fun G1 H1 i d e1 e2 hd => by
    rw [List.getElem?_map, Option.map_eq_some_iff] at hd
    obtain ⟨p, hp, rfl⟩ := hd
    obtain ⟨x, hx, _, r1⟩ := r.get hp
    refine ⟨⟨e2 _ _ (e1 _ _ h), (List.getElem?_eq_some_iff.mp hx).1⟩, fun y H' q => ?_⟩
    obtain ⟨rfl, x', hx', rfl⟩ := q
    rw [hx] at hx'; cases hx'
    exact ⟨G1, .refl e2, Rp.mono e1 _ _ r1⟩
  stop := fun G1 H1 e1 e2 => ⟨e2 _ _ (e1 _ _ h), by rw [r.length, List.length_map]; exact Nat.le_refl _⟩
theorem iKd_of (e : Same G H) (S : DkS K P w G σ j es) {R : It → Hp → Prop} (q : ∀ J, ItD K J (es.map (·.1)) G → R J H) : iKd P w (tVar j) σ H R := by
  obtain ⟨a, o, xs, h1, h2, h3⟩ := S
  exact ⟨.ref a, h1, a, o, xs, rfl, e _ _ h2, q _ (itd_kd h2 h3)⟩
theorem iVd_of (e : Same G H) (S : DkS K P w G σ j es) {R : It → Hp → Prop} (q : ∀ J, ItD K J (es.map fun p => lc p.2.1 p.2.2) G → R J H) : iVd P w (tVar j) σ H R := by
  obtain ⟨a, o, xs, h1, h2, h3⟩ := S
  exact ⟨.ref a, h1, a, o, xs, rfl, e _ _ h2, q _ (itd_vd h2 h3)⟩
/-- a loop over data, from a state that grows -/
theorem tfor_S {wi : TI} {tb : TS} {De : Ends} {ds : List D} {St : Hp → Hp → L2.St → Ev → Prop} {Pp : Nat → Ev → Prop} (j : Nat)
    (hgr : ∀ {G H σ ρ G' H'}, St G H σ ρ → Grow G H G' H' → St G' H' σ ρ) (hst : ∀ {G H σ ρ}, St G H σ ρ → Same G H ∧ Rs K G σ ρ) (htg : ∀ {G H σ ρ σ' ρ'}, St G H σ ρ → Rs K G σ' ρ' → wipe σ' [j] = wipe σ [j] → St G H σ' ρ')
    (S : St G H σ ρ) (hw : ∀ R : It → Hp → Prop, (∀ J G' H', Grow G H G' H' → ItD K J ds G' → R J H') → wi σ H R) (h0 : Pp 0 ρ)
    (hb : ∀ (i : Nat) d G1 H1 σ1 ρ1, ds[i]? = some d → Same G G1 → St G1 H1 σ1 (stE ρ1 j (some d)) → Pp i ρ1 → ∀ N : L2.St → Hp → Prop, (∀ G2 H2 σ2 ρ2, Same G1 G2 → St G2 H2 σ2 ρ2 → Pp (i + 1) ρ2 → N σ2 H2) → tb { De with nx := N, ct := N, bk := De.nx } σ1 H1)
    (hd : ∀ G1 H1 σ1 ρ1, Same G G1 → St G1 H1 σ1 ρ1 → Pp ds.length ρ1 → De.nx σ1 H1) : tFor wi (gD K (.one j)) tb De σ H := by
  refine hw _ fun J G1 H1 g1 it => ?_
  refine ⟨fun i m σ H => m = ds.length - i ∧ i ≤ ds.length ∧ ∃ G2 ρ2, Same G1 G2 ∧ St G2 H σ ρ2 ∧ Pp i ρ2, ⟨_, rfl, Nat.zero_le _, G1, ρ, Same.refl _, hgr S g1, h0⟩, ?_⟩
  rintro i m σ2 H2 ⟨rfl, hi, G2, ρ2, s2, S2, p2⟩
  obtain ⟨si, rs⟩ := hst S2
  by_cases hlt : i < ds.length
  · obtain ⟨hgo, hy⟩ := it.go G2 H2 i _ s2 si (List.getElem?_eq_getElem hlt)
    refine .inr ⟨hgo, fun σ' H' => i + 1 ≤ ds.length ∧ ∃ G3 ρ3, Same G1 G3 ∧ St G3 H' σ' ρ3 ∧ Pp (i + 1) ρ3, fun σ' H' w => ⟨ds.length - (i + 1), by omega, rfl, w⟩, fun x H' yl => ?_⟩
    obtain ⟨G3, g3, rx⟩ := hy x H' yl
    have S3 := hgr S2 g3
    refine ⟨G3, ρ2, _, _, g3.i, (hst S3).2, rx, rfl, fun σ' rs' hw' => ?_⟩
    have S4 := htg S3 rs' (hw' _ fun _ z => z)
    exact hb i _ G3 H' σ' ρ2 (List.getElem?_eq_getElem hlt) (g1.g.trans (s2.trans g3.g)) S4 p2 _ fun G5 H5 σ5 ρ5 s5 S5 p5 => ⟨hlt, G5, ρ5, s2.trans (g3.g.trans s5), S5, p5⟩
  · have ei : i = ds.length := by omega
    subst ei
    exact .inl ⟨it.stop G2 H2 s2 si, hd G2 H2 σ2 ρ2 (g1.g.trans s2) S2 p2⟩
/-- the state of _law_meet -/
structure MtS (K : PySem.W.Frag) (P : Program) (w : World) (G0 H0 : Hp) (es fs : Dd) (G H : Hp) (σ : L2.St) (ρ : Ev) : Prop where
  gr : Grow G0 H0 G H
  rs : Rs K G σ ρ
  dn : DkS K P w G σ 0 es
  df : DkS K P w G σ 1 fs
theorem MtS.grow (S : MtS K P w G0 H0 es fs G H σ ρ) (g : Grow G H G' H') : MtS K P w G0 H0 es fs G' H' σ ρ := ⟨S.gr.trans g, S.rs.mono g.g, S.dn.mono g.g, S.df.mono g.g⟩
theorem MtS.tgt (S : MtS K P w G0 H0 es fs G H σ ρ) (h : 2 ≤ j) (rs : Rs K G σ' ρ') (hw : wipe σ' [j] = wipe σ [j]) : MtS K P w G0 H0 es fs G H σ' ρ' :=
  ⟨S.gr, rs, S.dn.at_ (get_wipe 0 j hw (by omega)), S.df.at_ (get_wipe 1 j hw (by omega))⟩
theorem MtS.set (S : MtS K P w G0 H0 es fs G H σ ρ) (h : 2 ≤ j) (r : Rp K G v d) : MtS K P w G0 H0 es fs G H (σ.set j (some v)) (stE ρ j (some d)) :=
  S.tgt h (S.rs.set j r) (wipe_set List.mem_cons_self)
end
def optD : Option Int → D
  | none => .none
  | some i => .int i
def mtMin (b : Option Int) (x : Int) : Int := match b with
  | none => x
  | some b => if x < b then x else b
def mtBest (es fs : Dd) (b : Option Int) (p : D × Int × Int) : Option (Option Int) := match keyT p.1 with
  | some k => (match lookE fs k with
    | none => some b
    | some (lf, _) => (match lookE es k with
      | none => none
      | some (ln, _) => some (some (mtMin b (ln + lf)))))
  | none => none
def mtMany (es fs : Dd) (half best : Int) (m : Int) (p : D × Int × Int) : Option Int := match keyT p.1 with
  | some k => (match lookE es k with
    | none => none
    | some (ln, cn) => (match decide (ln = half) with
      | false => some m
      | true => (match lookE fs k with
        | none => some m
        | some (lf, cf) => (match decide (lf = best - half) with
          | false => some m
          | true => (match small cn with
            | true => some (m + cn * cf)
            | false => none)))))
  | none => none
def maxL : List Int → Option Int
  | [] => none
  | x :: xs => some (xs.foldl (fun a b => if b > a then b else a) x)
def meetD (es fs : Dd) : Option D := match Nat.ble es.length lim with
  | true => (match foldO (mtBest es fs) es none with
    | some none => some .none
    | some (some best) => (match maxL (es.map (·.2.1)) with
      | some deep => (match foldO (mtMany es fs (if best < deep then best else deep) best) es 0 with
        | some m => some (.tuple [.int best, .int m])
        | none => none)
      | none => none)
    | none => none)
  | false => none
theorem compL_map {t : Tgt} {ft : Ev → Option Bool} {fe : Ev → Option D} {ρ : Ev} {α : Type} (x g : α → D) : ∀ as : List α, (∀ a ∈ as, ∃ ρ1, tgE t (x a) ρ = some ρ1 ∧ ft ρ1 = some true ∧ fe ρ1 = some (g a)) → compL t ft fe ρ (as.map x) = some (as.map g)
  | [], _ => rfl
  | a :: as, h => by
    obtain ⟨ρ1, h1, h2, h3⟩ := h a List.mem_cons_self
    have ih := compL_map x g as fun b hb => h b (List.mem_cons_of_mem _ hb)
    rw [List.map_cons]
    unfold compL
    rw [h1]
    dsimp only
    rw [h2]
    dsimp only
    rw [h3]
    dsimp only
    rw [ih]; rfl
theorem maxL_ok : ∀ (xs : List Int) (m : Int), maxL xs = some m → m ∈ xs ∧ ∀ y ∈ xs, y ≤ m
  | [], _, h => by cases h
  | x :: xs, m, h => by
    have h' : xs.foldl (fun a b => if b > a then b else a) x = m := Option.some.inj h
    subst h'
    clear h
    induction xs generalizing x with
    | nil => simp
    | cons y ys ih =>
      obtain ⟨h1, h2⟩ := ih (if y > x then y else x)
      rw [List.foldl_cons]
      refine ⟨?_, fun z hz => ?_⟩
      · rcases List.mem_cons.mp h1 with e | e
        · rw [e]
          split
          · simp
          · simp
        · simp [e]
      · have hx := h2 _ List.mem_cons_self
        rcases List.mem_cons.mp hz with rfl | hz
        · refine Int.le_trans ?_ hx
          split <;> omega
        · rcases List.mem_cons.mp hz with rfl | hz
          · refine Int.le_trans ?_ hx
            split <;> omega
          · exact h2 z (List.mem_cons_of_mem _ hz)
end Mv

/-! part Dk7 -/
set_option maxHeartbeats 4000000
namespace Mv
open PySem PySem.Spec L2
section
variable {X : Cx} {elt tg iter : Expr} {ifs : List Expr} {scope : Scope} {pos : Pos} {wi : TI} {ft : Ev → Option Bool} {fe : Ev → Option D}
theorem xlcR (t : Tgt) (own : List (Str × Nat)) (hc : X.calm = true) (hN : X.N.Nodup) (hi : PI X tg iter wi) (ok : BlkOk X.N X.env.scope scope own)
    (hg : ∀ (s : Shared) (H : Hp) (C : Addr) (cl : List (Str × Addr)) (fp : List Addr), PG (X.blk s H scope (compEnvC scope cl C X.env) fp) tg (gD X.K t)) (ht : ∀ (s : Shared) (H : Hp) (C : Addr) (cl : List (Str × Addr)) (fp : List Addr), PTs (X.blk s H scope (compEnvC scope cl C X.env) fp) ifs (bD ft X.K))
    (he : ∀ (s : Shared) (H : Hp) (C : Addr) (cl : List (Str × Addr)) (fp : List Addr), PE (X.blk s H scope (compEnvC scope cl C X.env) fp) elt (tD X.K fe)) (hs : ∀ x, foldedSetIterable iter X.env x = pure x := by intro _; rfl) :
    PE X (.ListComp elt [⟨tg, iter, ifs, 0⟩] scope pos) (tLc wi (gD X.K t) (bD ft X.K) (tD X.K fe) (own.map (·.2))) := pe_lc hc hN hi ok hg ht he hs
end
theorem tLc_vd {K : PySem.W.Frag} {P : Program} {w : World} {G H : Hp} {σ : L2.St} {ρ : Ev} {es : Dd} {j : Nat} {t : Tgt} {vs : List Nat} {ft : Ev → Option Bool} {fe : Ev → Option D} {ys : List D} {Q : VK} (e : Same G H) (r : Rs K G σ ρ) (S : DkS K P w G σ j es) (hsub : ∀ i ∈ t.slots, i ∈ vs)
    (hlim : es.length ≤ lim) (hc : compL t ft fe (wipeE ρ vs) (es.map fun p => lc p.2.1 p.2.2) = some ys) (q : ∀ v G' H', Grow G H G' H' → Rp K G' v (.list ys) → Q v H') : tLc (iVd P w (tVar j)) (gD K t) (bD ft K) (tD K fe) vs σ H Q :=
  iVd_of e S fun J it => comp_turns hsub r (.refl e) it (by rw [List.length_map]; exact hlim) hc q
section
variable {P : Program} {w : World} {K : PySem.W.Frag} {mg : Str → Option Value} {base : Heap}
/-- what _law_meet promises -/
def spMeet (K : PySem.W.Frag) (P : Program) (w : World) : Sp := fun vs H Q _ => ∃ G a oa xs b ob ys es fs d, vs = [.ref a, .ref b] ∧ Same G H ∧ Fz P w G a oa xs ∧ EntD K G xs es ∧ Fz P w G b ob ys ∧ EntD K G ys fs ∧ meetD es fs = some d ∧
  ∀ v G' H', Grow G H G' H' → Rp K G' v d → Q v H'
def N_meet : List Str := ["_law_near_so", "_law_far_so", "_law_best_so", "_law_spot", "_law_deep_so", "_law_half_so", "_law_many_so", "_law_both_so", "_law_own"]
theorem sc_law_meet : FnScope N_meet ["_law_near_so", "_law_far_so"] (defScope (topS 74)) := ⟨rfl, rfl, rfl, by decide +kernel, rfl, by decide +kernel, by decide +kernel⟩
theorem cal_law_meet (B : Bt mg) (F : Df K mg "_law_meet" (topS 74) ["_law_near_so", "_law_far_so"]) :
    ∃ (f : Addr) (fd : FuncData) (ps : List Str), FnOk P w K mg base CX0 1 f fd ps (spMeet K P w) ∧ mg "_law_meet" = some (.ref f) ∧ PySem.W.keepIn K (.ref f) = true ∧ Binds K fd ps [] := by
  obtain ⟨f, fd, F, hm, hbi⟩ := F.ex
  refine ⟨f, fd, _, ?_, hm, F.kp, hbi⟩
  refine F.ok sc_law_meet (fun vs H Q E h => ?_) (fun cdv A outer s H vs Q E hr h => ?_)
  · obtain ⟨G, a, oa, xs, b, ob, ys, es, fs, d, rfl, _⟩ := h
    rfl
  have nd := sc_law_meet.nd
  refine ⟨_, pss_cons (ps_set (i := 2) nd rfl (Or.inl rfl) xc_non)
    (pss_cons (ps_for PassesOwn.never rfl (pi_kd (pe_var (i := 0) rfl (Or.inl rfl))) (g1 (i := 3) nd rfl (Or.inl rfl))
        (pss_one (ps_if (pt_cmpR (op_kin hr.units) (xv 3 rfl (Or.inl rfl)) (pe_var (i := 1) rfl (Or.inl rfl)) rfl)
          (pss_cons (ps_set (i := 7) nd rfl (Or.inl rfl) (pe_op op_dAdd (pe_ix ix_D (pe_kget hr.units (pe_var (i := 0) rfl (Or.inl rfl)) (xv 3 rfl (Or.inl rfl))) xc_int (fun _ _ => rfl)) (pe_ix ix_D (pe_kget hr.units (pe_var (i := 1) rfl (Or.inl rfl)) (xv 3 rfl (Or.inl rfl))) xc_int (fun _ _ => rfl))))
            (pss_one (ps_set (i := 2) nd rfl (Or.inl rfl) (xif (PW.pt (tor (tcmp op_dIs (xv 2 rfl (Or.inl rfl)) xc_non (nomark _)) (tor1 (tcmp op_dLt (xv 7 rfl (Or.inl rfl)) (xv 2 rfl (Or.inl rfl)) (nomark _))))) (xv 7 rfl (Or.inl rfl)) (xv 2 rfl (Or.inl rfl))))))
          pss_nil)))
    (pss_cons (ps_if (tcmp op_dIs (xv 2 rfl (Or.inl rfl)) xc_non (nomark _)) (pss_one (ps_ret xc_non)) pss_nil)
    (pss_cons (ps_set (i := 4) nd rfl (Or.inl rfl) (pe_callB (cr_max rfl) rfl B.max_ (by decide +kernel) (pa_cons (xlcR (.one 8) [("_law_own", 8)] rfl nd (pi_vd (pe_var (i := 0) rfl (Or.inl rfl))) (blkOk_by (N := N_meet) (sc := defScope (topS 74)) (by decide +kernel)) (fun _ _ _ _ _ => (g1 (i := 8) nd rfl (Or.inl rfl))) (fun _ _ _ _ _ => ts0) (fun _ _ _ _ _ => (xix (xv 8 rfl (Or.inl rfl)) xc_int))) pa_nil)))
    (pss_cons (ps_par (i := 5) (j := 6) rfl nd rfl rfl (by decide) rfl rfl (ac (xcallB (cl_min rfl) (by decide +kernel) B.min_ rfl (ac (xv 4 rfl (Or.inl rfl)) (ac (xv 2 rfl (Or.inl rfl)) an))) (ac xc_int an)) rfl)
    (pss_cons (ps_for PassesOwn.never rfl (pi_kd (pe_var (i := 0) rfl (Or.inl rfl))) (g1 (i := 3) nd rfl (Or.inl rfl))
        (pss_one (ps_if (PW.pt (pw_and (pt_cmpR (op_dEq hr.units) (pe_ix ix_D (pe_kget hr.units (pe_var (i := 0) rfl (Or.inl rfl)) (xv 3 rfl (Or.inl rfl))) xc_int (fun _ _ => rfl)) (xv 5 rfl (Or.inl rfl)) (nomark _))
              (pw_and (pt_cmpR (op_kin hr.units) (xv 3 rfl (Or.inl rfl)) (pe_var (i := 1) rfl (Or.inl rfl)) rfl)
                (pw_and1 (pt_cmpR (op_dEq hr.units) (pe_ix ix_D (pe_kget hr.units (pe_var (i := 1) rfl (Or.inl rfl)) (xv 3 rfl (Or.inl rfl))) xc_int (fun _ _ => rfl)) (xo2 op_dSub (xv 2 rfl (Or.inl rfl)) (xv 5 rfl (Or.inl rfl))) (nomark _))))))
          (pss_one (ps_set (i := 6) nd rfl (Or.inl rfl) (pe_op op_dAdd (xv 6 rfl (Or.inl rfl)) (pe_op op_dMul (pe_ix ix_D (pe_kget hr.units (pe_var (i := 0) rfl (Or.inl rfl)) (xv 3 rfl (Or.inl rfl))) xc_int (fun _ _ => rfl)) (pe_ix ix_D (pe_kget hr.units (pe_var (i := 1) rfl (Or.inl rfl)) (xv 3 rfl (Or.inl rfl))) xc_int (fun _ _ => rfl))))))
          pss_nil)))
    (pss_one (ps_ret (xtup (ac (xv 2 rfl (Or.inl rfl)) (ac (xv 6 rfl (Or.inl rfl)) an)))))))))), ?_⟩
  obtain ⟨G, a, oa, xs, b, ob, ys, es, fs, d, rfl, e, ha, hxs, hb, hys, hd, q⟩ := h
  unfold meetD at hd
  split at hd
  · next hlim =>
    have rs0 : Rs K G (L2.start N_meet [.ref a, .ref b]) (List.replicate 9 none) := ⟨rfl, fun i d h => (nth_rep 9 i d h).elim⟩
    have dn0 : DkS K P w G (L2.start N_meet [.ref a, .ref b]) 0 es := ⟨a, oa, xs, rfl, ha, hxs⟩
    have df0 : DkS K P w G (L2.start N_meet [.ref a, .ref b]) 1 fs := ⟨b, ob, ys, rfl, hb, hys⟩
    have at0 : At 9 (List.replicate 9 none) [] := ⟨rfl, fun i d hm => by cases hm⟩
    have S0 : MtS K P w G H es fs G H (L2.start N_meet [.ref a, .ref b]) (List.replicate 9 none) := ⟨.refl e, rs0, dn0, df0⟩
    generalize L2.start N_meet [.ref a, .ref b] = σ at S0
    generalize (List.replicate 9 none : Ev) = ρ at S0 at0
    clear rs0 dn0 df0
    refine ⟨G, ρ, .none, S0.gr.i, S0.rs, rfl, fun v1 G1 H1 g1 r1 => ?_⟩
    have S1 := (S0.grow g1).set (j := 2) (by decide) r1
    have a1 := at0.add (j := 2) (d := optD none) (by decide) rfl
    -- what one reads of an entry
    have key : ∀ {p : D × Int × Int} {k : NestedKey}, keyT p.1 = some k → keyN 8 p.1 = some k ∧ ∃ xs, p.1 = .tuple xs := fun h => keyT_some h
    -- the first loop
    refine tfor_S 3 (ds := es.map (·.1)) (St := MtS K P w G H es fs) (Pp := fun i ρ => ∃ b, At 9 ρ [(2, optD b)] ∧ foldO (mtBest es fs) (es.drop i) b = foldO (mtBest es fs) es none) (fun S g => S.grow g) (fun S => ⟨S.gr.i, S.rs⟩) (fun S r h => S.tgt (by decide) r h) S1
      (fun R hR => iKd_of S1.gr.i S1.dn fun J it => hR J G1 H1 (.refl S1.gr.i) it) ⟨none, a1, by rw [List.drop_zero]⟩ ?_ ?_
    · rintro i d' G2 H2 σ2 ρ2 hi sg S2 ⟨b2, a2, hf⟩ N hN
      rw [List.getElem?_map, Option.map_eq_some_iff] at hi
      obtain ⟨p, hp, rfl⟩ := hi
      have tot : ∃ r, foldO (mtBest es fs) es none = some r := by
        cases h : foldO (mtBest es fs) es none with
        | none => rw [h] at hd; cases hd
        | some r => exact ⟨r, rfl⟩
      obtain ⟨r, hr'⟩ := tot
      rw [hr'] at hf
      obtain ⟨b3, hb3, hf'⟩ := foldO_drop hp hf
      have a3 := a2.add (j := 3) (d := p.1) (by decide) rfl
      have e3 : nth (stE ρ2 3 (some p.1)) 3 = some p.1 := a3.2 3 _ (by simp)
      unfold mtBest at hb3
      split at hb3
      · next k hk =>
        obtain ⟨hk1, ht1⟩ := key hk
        refine m_in S2.gr.i S2.rs S2.df e3 ht1 hk1 fun G3 H3 g3 => ⟨_, rfl, ?_⟩
        have S3 := S2.grow g3
        split at hb3
        · next hl =>
          cases hb3
          rw [hl]
          refine iteF ?_
          exact hN G3 H3 _ _ g3.g S3 ⟨b2, a3.sub (by simp), by rw [hr']; exact hf'⟩
        · next lf cf hl =>
          split at hb3
          · cases hb3
          · next ln cn hl2 =>
            cases hb3
            rw [hl]
            refine iteT ?_
            refine m_fld S3.gr.i S3.rs S3.dn e3 ht1 hk1 hl2 (z := ln) rfl fun G4 H4 g4 => ?_
            have S4 := S3.grow g4
            refine m_fld S4.gr.i S4.rs S4.df e3 ht1 hk1 hl (z := lf) rfl fun G5 H5 g5 => ?_
            have S5 := S4.grow g5
            refine ⟨G5, .int ln, .int lf, .int (ln + lf), S5.gr.i, .int _, .int _, rfl, fun v G6 H6 g6 r6 => ?_⟩
            have S6 := (S5.grow g6).set (j := 7) (by decide) r6
            have a4 := a3.add (j := 7) (d := .int (ln + lf)) (by decide) rfl
            refine ⟨G6, _, optD (some (mtMin b2 (ln + lf))), S6.gr.i, S6.rs, ?_, fun v7 G7 H7 g7 r7 => ?_⟩
            · have q7 := a4.2 7 (.int (ln + lf)) (by simp)
              have q2 := a4.2 2 (optD b2) (by simp)
              unfold ifE orB toB o2 vE cE
              rw [q7, q2]
              cases b2 with
              | none => rfl
              | some b2 =>
                by_cases h : ln + lf < b2
                · simp only [optD, mtMin, isN, dLt, dCmp, decide_eq_true h, if_pos h]
                · simp only [optD, mtMin, isN, dLt, dCmp, decide_eq_false h, if_neg h]
            · have S7 := (S6.grow g7).set (j := 2) (by decide) r7
              have a5 := (a4.sub (gs := [(7, .int (ln + lf)), (3, p.1)]) (by simp)).add (j := 2) (d := optD (some (mtMin b2 (ln + lf)))) (by decide) rfl
              exact hN G7 H7 _ _ (g3.g.trans (g4.g.trans (g5.g.trans (g6.g.trans g7.g)))) S7 ⟨some (mtMin b2 (ln + lf)), a5.sub (by simp), by rw [hr']; exact hf'⟩
      · cases hb3
    · rintro G2 H2 σ2 ρ2 sg S2 ⟨b2, a2, hf⟩
      rw [List.length_map, List.drop_length] at hf
      have hf0 : some b2 = foldO (mtBest es fs) es none := hf
      rw [← hf0] at hd
      have q2 := a2.2 2 (optD b2) (by simp)
      refine ⟨G2, ρ2, decide (b2 = none), S2.gr.i, S2.rs, ?_, fun G3 H3 g3 => ?_⟩
      · unfold toB o2 vE cE
        rw [q2]
        cases b2 <;> rfl
      have S3 := S2.grow g3
      cases b2 with
      | none =>
        cases hd
        refine iteT ?_
        exact ⟨G3, ρ2, .none, S3.gr.i, S3.rs, rfl, fun v G4 H4 g4 r4 => q v G4 H4 (S3.gr.trans g4) r4⟩
      | some best =>
        refine iteF ?_
        dsimp only at hd
        split at hd
        · next deep hdeep =>
          split at hd
          · next m hm =>
            cases hd
            -- deep = max([..])
            unfold tNext
            dsimp only
            rw [tSeq, tAsg, tCB, tCons]
            have hcomp : compL (.one 8) yesB (o2 dIx (vE 8) (cE (.int 0))) (wipeE ρ2 [8]) (es.map fun p => lc p.2.1 p.2.2) = some (es.map fun p => PyData.int p.2.1) := by
              refine compL_map (fun p : D × Int × Int => lc p.2.1 p.2.2) (fun p => PyData.int p.2.1) es fun p _ => ⟨_, rfl, rfl, ?_⟩
              have e8 : nth (stE (wipeE ρ2 [8]) 8 (some (lc p.2.1 p.2.2))) 8 = some (lc p.2.1 p.2.2) := nth_st_eq (by show 8 < (stE ρ2 8 none).length; rw [stE_len, a2.1]; decide)
              unfold o2 vE cE
              rw [e8]; rfl
            refine tLc_vd S3.gr.i S3.rs S3.dn (by decide) (Nat.le_of_ble_eq_true hlim) hcomp fun v4 G4 H4 g4 r4 => ?_
            obtain ⟨hmem, hmx⟩ := maxL_ok _ _ hdeep
            cases r4 with
            | @lst av xsv dsv hv rv =>
            have allInt : ∀ (es : Dd) (xs : List V), RpAll K G4 xs (es.map fun p => PyData.int p.2.1) → xs = (es.map (·.2.1)).map V.int := by
              intro es
              induction es with
              | nil => intro xs h; cases h; rfl
              | cons p es ih =>
                intro xs h
                cases h with
                | cons h1 h2 => cases h1; rw [ih _ h2]; rfl
            have ex := allInt es _ rv
            refine ⟨av, es.map (·.2.1), rfl, by rw [← ex]; exact .inl (.inl (g4.i _ _ hv)), List.length_pos_of_mem hmem, fun m' h1 h2 => ?_⟩
            obtain rfl : m' = deep := Int.le_antisymm (hmx _ h1) (h2 _ hmem)
            have S4 := (S3.grow g4).set (j := 4) (by decide) (.int m')
            have a4 := a2.add (j := 4) (d := .int m') (by decide) rfl
            -- half, many = ..
            refine ⟨G4, _, [.int (if best < m' then best else m'), .int 0], S4.gr.i, S4.rs, ?_, fun vs5 G5 H5 g5 r5 => ?_⟩
            · have q4 := a4.2 4 (.int m') (by simp)
              have q2' := a4.2 2 (optD (some best)) (by simp)
              simp only [consA, aE, nilA, vE, cE, q4, q2']
              rfl
            cases r5 with
            | @cons v50 _ _ _ r50 r5 =>
            cases r5 with
            | @cons v51 _ _ _ r51 r5 =>
            cases r5
            cases r50; cases r51
            refine ⟨_, _, rfl, ?_⟩
            have S5 := ((S4.grow g5).set (j := 5) (by decide) (.int (if best < m' then best else m'))).set (j := 6) (by decide) (.int 0)
            have a5 := ((a4.add (j := 5) (d := .int (if best < m' then best else m')) (by decide) rfl).add (j := 6) (d := .int 0) (by decide) rfl)
            generalize hhalf : (if best < m' then best else m') = half at *
            -- the second loop
            refine tfor_S 3 (ds := es.map (·.1)) (St := MtS K P w G H es fs) (Pp := fun i ρ => ∃ z, At 9 ρ [(6, .int z), (5, .int half), (2, .int best)] ∧ foldO (mtMany es fs half best) (es.drop i) z = some m) (fun S g => S.grow g) (fun S => ⟨S.gr.i, S.rs⟩) (fun S r h => S.tgt (by decide) r h) S5
              (fun R hR => iKd_of S5.gr.i S5.dn fun J it => hR J G5 H5 (.refl S5.gr.i) it) ⟨0, a5.sub (by simp [optD]), by rw [List.drop_zero]; exact hm⟩ ?_ ?_
            · rintro i d' G6 H6 σ6 ρ6 hi sg6 S6 ⟨z, a6, hf6⟩ N hN
              rw [List.getElem?_map, Option.map_eq_some_iff] at hi
              obtain ⟨p, hp, rfl⟩ := hi
              obtain ⟨z2, hz2, hf6'⟩ := foldO_drop hp hf6
              have a7 := a6.add (j := 3) (d := p.1) (by decide) rfl
              have e3 : nth (stE ρ6 3 (some p.1)) 3 = some p.1 := a7.2 3 _ (by simp)
              have e5 : nth (stE ρ6 3 (some p.1)) 5 = some (.int half) := a7.2 5 _ (by simp)
              have e2 : nth (stE ρ6 3 (some p.1)) 2 = some (.int best) := a7.2 2 _ (by simp)
              have e6 : nth (stE ρ6 3 (some p.1)) 6 = some (.int z) := a7.2 6 _ (by simp)
              unfold mtMany at hz2
              split at hz2
              · next k hk =>
                obtain ⟨hk1, ht1⟩ := key hk
                split at hz2
                · cases hz2
                · next ln cn hl =>
                  refine m_fld S6.gr.i S6.rs S6.dn e3 ht1 hk1 hl (z := ln) rfl fun G7 H7 g7 => ?_
                  have S7 := S6.grow g7
                  refine ⟨G7, _, .int half, S7.gr.i, S7.rs, e5, fun v8 G8 H8 g8 r8 => ?_⟩
                  have S8 := S7.grow g8
                  refine ⟨G8, .int ln, .int half, .bool (decide (ln = half)), S8.gr.i, .int _, r8, dEq_int _ _, fun v9 G9 H9 g9 r9 => ?_⟩
                  cases r9
                  refine ⟨_, rfl, ?_⟩
                  have S9 := S8.grow g9
                  have sg9 : Same G6 G9 := g7.g.trans (g8.g.trans g9.g)
                  split at hz2
                  · next hne =>
                    cases hz2
                    rw [hne]
                    refine iteF (iteF ?_)
                    exact hN G9 H9 _ _ sg9 S9 ⟨z, a7.sub (by simp), hf6'⟩
                  · next heq =>
                    rw [heq]
                    refine iteT ?_
                    refine m_in S9.gr.i S9.rs S9.df e3 ht1 hk1 fun G10 H10 g10 => ⟨_, rfl, ?_⟩
                    have S10 := S9.grow g10
                    split at hz2
                    · next hl2 =>
                      cases hz2
                      rw [hl2]
                      refine iteF (iteF ?_)
                      exact hN G10 H10 _ _ (sg9.trans g10.g) S10 ⟨z, a7.sub (by simp), hf6'⟩
                    · next lf cf hl2 =>
                      rw [hl2]
                      refine iteT ?_
                      refine m_fld S10.gr.i S10.rs S10.df e3 ht1 hk1 hl2 (z := lf) rfl fun G11 H11 g11 => ?_
                      have S11 := S10.grow g11
                      refine ⟨G11, _, .int (best - half), S11.gr.i, S11.rs, ?_, fun v12 G12 H12 g12 r12 => ?_⟩
                      · unfold o2 vE
                        rw [e2, e5]; rfl
                      have S12 := S11.grow g12
                      refine ⟨G12, .int lf, .int (best - half), .bool (decide (lf = best - half)), S12.gr.i, .int _, r12, dEq_int _ _, fun v13 G13 H13 g13 r13 => ?_⟩
                      cases r13
                      refine ⟨_, rfl, ?_⟩
                      have S13 := S12.grow g13
                      have sg13 : Same G6 G13 := sg9.trans (g10.g.trans (g11.g.trans (g12.g.trans g13.g)))
                      split at hz2
                      · next hne2 =>
                        cases hz2
                        rw [hne2]
                        refine iteF ?_
                        exact hN G13 H13 _ _ sg13 S13 ⟨z, a7.sub (by simp), hf6'⟩
                      · next heq2 =>
                        split at hz2
                        · next hsm =>
                          cases hz2
                          rw [heq2]
                          refine iteT ?_
                          refine ⟨G13, _, .int z, S13.gr.i, S13.rs, e6, fun v14 G14 H14 g14 r14 => ?_⟩
                          have S14 := S13.grow g14
                          refine m_fld S14.gr.i S14.rs S14.dn e3 ht1 hk1 hl (z := cn) rfl fun G15 H15 g15 => ?_
                          have S15 := S14.grow g15
                          refine m_fld S15.gr.i S15.rs S15.df e3 ht1 hk1 hl2 (z := cf) rfl fun G16 H16 g16 => ?_
                          have S16 := S15.grow g16
                          refine ⟨G16, .int cn, .int cf, .int (cn * cf), S16.gr.i, .int _, .int _, ?_, fun v17 G17 H17 g17 r17 => ?_⟩
                          · show (match small cn || small cf with | true => some (PyData.int (cn * cf)) | false => none) = _
                            rw [hsm]; rfl
                          have S17 := S16.grow g17
                          refine ⟨G17, .int z, .int (cn * cf), .int (z + cn * cf), S17.gr.i, Rp.mono (g15.g.trans (g16.g.trans g17.g)) _ _ r14, r17, rfl, fun v18 G18 H18 g18 r18 => ?_⟩
                          have S18 := (S17.grow g18).set (j := 6) (by decide) r18
                          exact hN G18 H18 _ _ (sg13.trans (g14.g.trans (g15.g.trans (g16.g.trans (g17.g.trans g18.g))))) S18 ⟨z + cn * cf, (((a7.sub (gs := [(3, p.1), (5, .int half), (2, .int best)]) (by simp)).add (j := 6) (d := .int (z + cn * cf)) (by decide) rfl)).sub (by simp), hf6'⟩
                        · cases hz2
              · cases hz2
            · rintro G6 H6 σ6 ρ6 sg6 S6 ⟨z, a6, hf6⟩
              rw [List.length_map, List.drop_length] at hf6
              cases hf6
              refine ⟨G6, ρ6, .tuple [.int best, .int m], S6.gr.i, S6.rs, ?_, fun v7 G7 H7 g7 r7 => q v7 G7 H7 (S6.gr.trans g7) r7⟩
              have e2 := a6.2 2 (.int best) (by simp)
              have e6 := a6.2 6 (.int m) (by simp)
              simp only [aE, consA, nilA, vE, e2, e6]
              rfl
          · cases hd
        · cases hd
  · cases hd
end
end Mv

/-! part S1 -/
set_option maxHeartbeats 4000000
namespace Mv
open PySem PySem.Spec L2 PyProof.Rows

/-! ### sets of at most four turns: ("turn", corner, hand), told by 2 * corner + (hand is 1) -/
def sgn (i : Nat) : Int := if i % 2 = 1 then 1 else -1
def crn (i : Nat) : Int := ((i / 2 : Nat) : Int)
def mvD (i : Nat) : D := .tuple [.str "turn", .int (crn i), .int (sgn i)]
def mky (i : Nat) : NestedKey := .tup [.text "turn", .num (crn i), .num (sgn i)]
theorem mky_inj {i j : Nat} (h : mky i = mky j) : i = j := by
  have h' := h
  unfold mky at h'
  injection h' with h'
  injection h' with _ h'
  injection h' with h1 h'
  injection h' with h2 _
  injection h1 with h1
  injection h2 with h2
  unfold crn at h1
  unfold sgn at h2
  have h1' : i / 2 = j / 2 := Int.ofNat.inj h1
  split at h2 <;> split at h2 <;> first | omega | (exfalso; revert h2; decide)
structure IsM (h : Heap) (i : Nat) (b : Addr) : Prop where
  ex : ∃ o t t1 t2 n, h.get? b = some o ∧ o.cls = .type "tuple" ∧ o.data = .seq #[.str "turn" t, .int (crn i) t1, .int (sgn i) t2] n
theorem IsM.keep {h h' : Heap} {i : Nat} {b : Addr} (x : IsM h i b) (k : ∀ c o, h.get? c = some o → h'.get? c = some o) : IsM h' i b := by
  obtain ⟨o, t, t1, t2, n, ho, r⟩ := x.ex
  exact ⟨o, t, t1, t2, n, k _ _ ho, r⟩
theorem IsM.same {h h' : Heap} {i : Nat} {a b : Addr} {o : Obj} {es : Array (Int × Value)} {ep : Nat} {t : SetTable} (x : IsM h i b) (ho : h.get? a = some o) (hd : o.data = .set es ep t) (hs : Heap.SameBut a h h') : IsM h' i b := by
  obtain ⟨o', u, t1, t2, n, ho', hc, hd'⟩ := x.ex
  refine ⟨o', u, t1, t2, n, (hs.2 b fun e => ?_).trans ho', hc, hd'⟩
  subst e
  rw [ho] at ho'
  cases ho'
  rw [hd] at hd'
  cases hd'
section
variable {P : Program} {w : World} {A : Around} {E : Value → Shared → Prop} {s : Shared} {i : Nat} {b : Addr}
theorem IsM.kind (x : IsM s.heap i b) : (nestedKind P w).is s.heap (mky i) b := by
  obtain ⟨o, t, t1, t2, n, ho, hc, hd⟩ := x.ex
  exact ⟨.tup ho hc hd (.cons (.text _ _) (.cons (.int _ _) (.cons (.int _ _) .nil))), by show 1 ≤ 8; decide⟩
theorem IsM.typ (x : IsM s.heap i b) : s.TypeIs (.ref b) "tuple" := by
  obtain ⟨o, t, t1, t2, n, ho, hc, hd⟩ := x.ex
  exact ⟨o, ho, hc⟩
def mh (P : Program) (w : World) (i : Nat) : Int := (nestedKind P w).hash (mky i)
theorem m_class {Q : Bool → Shared → Prop} (x : IsM s.heap i b) (h : Q false s) : wpAny (model P w) A (ofAClassStatement 8 (.ref b)) Q E s := by
  obtain ⟨o, t, t1, t2, n, ho, hc, hd⟩ := x.ex
  unfold ofAClassStatement
  refine wpAny_bind (wpAny_typeOf x.typ ?_)
  dsimp only
  have e : (("tuple" : String) == "tuple") = true := by decide
  simp only [e, if_true, Bool.not_true, Bool.false_eq_true, if_false]
  show wpAny _ _ (seqItems? (.ref b) >>= _) _ _ s
  refine wpAny_bind (wpAny_seqItems ho hd ?_)
  dsimp only
  exact wpAny_of_eq (a := false) rfl h
theorem m_plain {Q : Bool → Shared → Prop} (x : IsM s.heap i b) (h : Q false s) : wpAny (model P w) A (hashByValue 8 (.ref b)) Q E s := by
  obtain ⟨o, t, t1, t2, n, ho, hc, hd⟩ := x.ex
  unfold hashByValue
  refine wpAny_bind (wpAny_specialOf x.typ F.slot_tuple_hash.lookup ?_)
  show wpAny _ _ (seqItems? (.ref b) >>= _) _ _ s
  refine wpAny_bind (wpAny_seqItems ho hd ?_)
  exact wpAny_of_eq (a := false) rfl h
theorem m_seen {Q : Bool → Shared → Prop} (x : IsM s.heap i b) (h : Q false s) : ∀ ys : List Value, (∀ y ∈ ys, ∃ j c, y = Value.ref c ∧ IsM s.heap j c) → wpAny (model P w) A (searchCouldBeSeen (.ref b) ys) Q E s := by
  intro ys hy
  unfold searchCouldBeSeen
  refine wpAny_bind ?_
  refine wpAny_forIn_list _ (fun rest r s' => r.1 = none ∧ s' = s ∧ ∀ y ∈ rest, ∃ j c, y = Value.ref c ∧ IsM s.heap j c) _ ?_ ?_ _ _ ⟨rfl, rfl, hy⟩
  · rintro v rest r s' ⟨hr, rfl, hall⟩
    obtain ⟨j, c, rfl, hc⟩ := hall v List.mem_cons_self
    have rest' : ∀ y ∈ rest, ∃ j c, y = Value.ref c ∧ IsM s'.heap j c := fun u hu => hall u (List.mem_cons_of_mem _ hu)
    dsimp only
    by_cases hv : (b == c || (carriedByValue (.ref b) && carriedByValue (.ref c))) = true
    · refine wp_if_pos hv ?_
      exact wpAny_pure ⟨rfl, rfl, rest'⟩
    · refine wp_if_neg hv ?_
      refine wpAny_bind ((nestedKind P w).quiet x.kind ?_)
      simp only [Bool.not_true, Bool.false_eq_true, if_false]
      refine wpAny_bind ((nestedKind P w).quiet hc.kind ?_)
      simp only [Bool.not_true, Bool.false_eq_true, if_false]
      refine wpAny_bind (m_class x ?_)
      simp only [Bool.false_eq_true, if_false]
      refine wpAny_bind (m_class hc ?_)
      simp only [Bool.false_eq_true, if_false]
      exact wpAny_pure ⟨rfl, rfl, rest'⟩
  · rintro ⟨r1, r2⟩ s' ⟨hr, rfl, _⟩
    simp only at hr
    subst hr
    exact wpAny_pure h
end
/-- the set at a holds the turns L -/
structure MsR (P : Program) (w : World) (h : Heap) (a : Addr) (L : List (Addr × Nat)) (es : Array (Int × Value)) (ep : Nat) (t : SetTable) : Prop where
  ob : ∃ o, h.get? a = some o ∧ o.ExactSet ∧ o.data = .set es ep t
  rows : es.toList = L.map fun p => (mh P w p.2, Value.ref p.1)
  tab : TabOk t (L.map fun p => mh P w p.2)
  mask : t.mask = 7
  led : w.params.followText "set-order" = true ∨ t.led = true
  few : L.length ≤ 4
  nd : (L.map (·.2)).Nodup
  tup : ∀ p ∈ L, IsM h p.2 p.1
section
variable {P : Program} {w : World} {A : Around} {E : Value → Shared → Prop} {s : Shared} {i : Nat} {a b : Addr} {L : List (Addr × Nat)} {es : Array (Int × Value)} {ep : Nat} {t : SetTable}
theorem MsR.size {h : Heap} (R : MsR P w h a L es ep t) : es.size = L.length := by
  have q := congrArg List.length R.rows
  rw [Array.length_toList, List.length_map] at q
  exact q
theorem MsR.psize {h : Heap} (R : MsR P w h a L es ep t) : t.place.size = L.length := by
  have q := R.tab.sz
  rw [List.length_map] at q
  exact q
theorem MsR.fits {h : Heap} (R : MsR P w h a L es ep t) : t.fits es.size = true := by
  have q1 := R.psize
  have q2 := R.size
  have q3 := R.few
  have q4 := R.mask
  unfold SetTable.fits SetTable.fill
  rw [R.tab.dm, Bool.and_eq_true, beq_iff_eq, decide_eq_true_eq]
  show t.place.size = es.size ∧ t.place.size + 0 ≤ t.mask
  omega
theorem MsR.entry {h : Heap} (R : MsR P w h a L es ep t) {j : Nat} {p : Addr × Nat} (q : L[j]? = some p) : es[j]? = some (mh P w p.2, Value.ref p.1) := by
  rw [← Array.getElem?_toList, R.rows, List.getElem?_map, q]; rfl
/-- a turn that isn't there yet: the search ends at the first empty slot of its way -/
theorem m_search (R : MsR P w s.heap a L es ep t) (x : IsM s.heap i b) (hn : i ∉ L.map (·.2)) (hu : A.units + 8 < cLine) {Q : SetFound → Shared → Prop}
    (q : ∀ K, way t.mask (mh P w i) K ∉ t.place.toList → (∀ c, c < K → way t.mask (mh P w i) c ∈ t.place.toList) → Q (.free (way t.mask (mh P w i) K) false) s) :
    wpAny (model P w) A (setSearch a (.ref b) (mh P w i) true) Q E s := by
  obtain ⟨o, ho, hex, hd⟩ := R.ob
  obtain ⟨K, hKf, hK, hKb⟩ := R.tab.first (by rw [List.length_map, R.mask]; have := R.few; omega) (mh P w i)
  have hb : K < 1000 := by
    have h1 : 10 * SetTable.turns t.mask ≤ 1000 := by rw [R.mask]; decide
    omega
  generalize hh : mh P w i = h0 at *
  obtain ⟨st, hst⟩ : ∃ st, runAt t.mask (SetTable.bits h0 % (t.mask + 1)) (SetTable.bits h0) = st := ⟨_, rfl⟩
  have hway : ∀ c, way t.mask h0 c = (L2.nth t.mask st c).j := fun c => by rw [← hst]
  have dm : ∀ c, (L2.nth t.mask st c).dummy = none := by
    have key : ∀ (n : Nat) (p : SetTable.Probe), p.dummy = none → (L2.nth t.mask p n).dummy = none := by
      intro n
      induction n with
      | zero => exact fun p h => h
      | succ n ih =>
        intro p h
        refine ih (adv t.mask p) ?_
        unfold adv
        split <;> exact h
    intro c
    exact key c st (by rw [← hst]; rfl)
  suffices go : ∀ (f c : Nat) (stand : Option SetTable.Probe), stand.getD (t.probeStart h0) = L2.nth t.mask st c → c ≤ K → K - c < f → wpAny (model P w) A (setSearchFrom a (.ref b) h0 true f stand) Q E s by
    unfold setSearch
    exact go 100000 0 none (by rw [← hst]; rfl) (Nat.zero_le _) (by omega)
  intro f
  induction f with
  | zero => intro c stand _ _ z; exact absurd z (Nat.not_lt_zero _)
  | succ f ih =>
    intro c stand hs hc hf
    rw [setSearchFrom_succ]
    refine wpAny_bind (wpAny_setState_of ho hd R.fits ?_)
    dsimp only
    refine wp_if_neg (by unfold SetTable.gaveWay; rw [mask_odd R.tab.mok]; decide) ?_
    have e1 : ∀ q, (L2.nth t.mask (L2.nth t.mask st c) q).j = (L2.nth t.mask st (c + q)).j := fun q => by rw [L2.nth_add]
    have spec := go_spec t R.tab.ris R.tab.dm (fun i => (es[i]?.map (·.1)).getD 0) h0 (10 * SetTable.turns t.mask) (K - c) _ (dm c) (by omega)
      (fun q hq => by rw [e1, ← hway]; exact hKb (c + q) (by omega)) (by rw [e1, show c + (K - c) = K by omega, ← hway]; exact hK)
    rcases spec with ⟨q0, j, hq, hj, hh0, _, hpr⟩ | ⟨_, hpr⟩
    · have hpr' : t.probe (fun i => (es[i]?.map (·.1)).getD 0) h0 (stand.getD (t.probeStart h0)) = some (.candidate (L2.nth t.mask (L2.nth t.mask st c) q0).j j (L2.nth t.mask (L2.nth t.mask st c) (q0 + 1))) := by rw [hs]; exact hpr
      rw [hpr']
      dsimp only
      have hjl : j < L.length := by
        have h1 := (List.getElem?_eq_some_iff.mp hj).1
        rw [Array.length_toList, R.psize] at h1
        exact h1
      have hp : L[j]? = some L[j] := List.getElem?_eq_getElem hjl
      generalize L[j] = p at hp
      have hmem : p ∈ L := List.mem_of_getElem? hp
      have ne : ¬ mky p.2 = mky i := fun z => hn (List.mem_map.mpr ⟨p, hmem, mky_inj z⟩)
      have rest : wpAny (model P w) A (searchRest a (.ref b) h0 true f es t (L2.nth t.mask (L2.nth t.mask st c) q0).j j (L2.nth t.mask (L2.nth t.mask st c) (q0 + 1))) Q E s := by
        unfold searchRest
        rw [R.entry hp]
        dsimp only
        refine wpAny_bind (wpAny_holding ((nestedKind P w).eqBool hu (R.tup p hmem).kind x.kind ?_))
        refine wpAny_bind (wpAny_setState_of ho hd R.fits ?_)
        dsimp only
        rw [decide_eq_false ne]
        refine wp_if_neg (by decide) ?_
        rw [sameMem]
        dsimp only
        have hsl : t.slot (L2.nth t.mask (L2.nth t.mask st c) q0).j = .live j := slot_live R.tab.ris hj
        simp only [if_true, hsl, R.entry hp]
        refine wpAny_bind (wpAny_isSame_ref_self (wpAny_bind (wpAny_pure ?_)))
        simp only [if_true]
        refine wp_if_neg (by decide) ?_
        exact ih (c + (q0 + 1)) _ (by show L2.nth t.mask (L2.nth t.mask st c) (q0 + 1) = _; rw [← L2.nth_add]) (by omega) (by omega)
      by_cases hl : t.led = true
      · refine wp_if_neg (by simp [hl]) ?_
        exact rest
      · refine wp_if_pos (by simp [hl]) ?_
        refine wpAny_bind (m_seen x ?_ _ (fun y hy => ?_))
        · refine wp_if_neg (by decide) ?_
          exact rest
        · obtain ⟨e, he, ee⟩ := List.mem_map.mp hy
          have he1 : e ∈ es ∧ e.1 = h0 := by simpa using he
          have he2 : e ∈ es.toList := by simpa using he1.1
          rw [R.rows] at he2
          obtain ⟨p2, hp2, e2⟩ := List.mem_map.mp he2
          exact ⟨p2.2, p2.1, by rw [← ee, ← e2], R.tup p2 hp2⟩
    · have hpr' : t.probe (fun i => (es[i]?.map (·.1)).getD 0) h0 (stand.getD (t.probeStart h0)) = some (.empty (way t.mask h0 K) none) := by
        have e2 : way t.mask h0 K = (L2.nth t.mask (L2.nth t.mask st c) (K - c)).j := by
          rw [e1, show c + (K - c) = K by omega, ← hst]
        rw [hs, e2]
        exact hpr
      rw [hpr']
      dsimp only
      exact wpAny_pure (q K hK hKb)
end
end Mv

/-! part S2 -/
set_option maxHeartbeats 4000000
namespace Mv
open PySem PySem.Spec L2 PyProof.Rows
section
variable {P : Program} {w : World} {A : Around} {E : Value → Shared → Prop} {s : Shared} {i : Nat} {a b : Addr} {L : List (Addr × Nat)} {es : Array (Int × Value)} {ep : Nat} {t : SetTable}
theorem tab_mark {t : SetTable} {hs : List Int} (T : TabOk t hs) : TabOk { t with plain := false } hs := ⟨T.ris, T.dm, T.sz, T.mok, T.bd, T.reach⟩
/-- one more turn -/
theorem m_add (R : MsR P w s.heap a L es ep t) (x : IsM s.heap i b) (hn : i ∉ L.map (·.2)) (hf : L.length < 4) (hu : A.units + 8 < cLine) {Q : Bool → Shared → Prop}
    (q : ∀ h' L' es' ep' t', Heap.SameBut a s.heap h' → MsR P w h' a L' es' ep' t' → L'.Perm ((b, i) :: L) → Q true { s with heap := h' }) :
    wpAny (model P w) A (setAddHashed a (.ref b) (mh P w i)) Q E s := by
  obtain ⟨o, ho, hex, hd⟩ := R.ob
  unfold setAddHashed
  refine wpAny_holding ?_
  rw [show (100000 : Nat) = 99999 + 1 from rfl, setAddHashedIn_succ]
  refine wpAny_bind (wpAny_setState_of ho hd R.fits ?_)
  dsimp only
  refine wp_if_neg (by simp [byScan, Value.scannable]) ?_
  refine wpAny_bind (m_search R x hn hu fun K hK hb => ?_)
  dsimp only
  refine wpAny_bind (wpAny_setState_of ho hd R.fits ?_)
  dsimp only
  obtain ⟨q1, q2, q3, q4, q5, q6, q7, q8, q9⟩ := R.tab.put hK hb
  generalize hpt : t.put (way t.mask (mh P w i) K) = pt at q1 q3 q4 q5 q6 q7 q8 q9 ⊢
  obtain ⟨t1, p⟩ := pt
  dsimp only at q1 q3 q4 q5 q6 q7 q8 q9 ⊢
  subst q1
  have go : ∀ t2 : SetTable, t2.place = t1.place → t2.dummies = t1.dummies → t2.mask = t1.mask → t2.led = t1.led → TabOk t2 ((L.map fun p => mh P w p.2).take (SetTable.below t.place (way t.mask (mh P w i) K)) ++ mh P w i :: (L.map fun p => mh P w p.2).drop (SetTable.below t.place (way t.mask (mh P w i) K))) → t2.tooFull = t1.tooFull →
      wpAny (model P w) A (do
        storeSet a (SetTable.insertAt es (SetTable.below t.place (way t.mask (mh P w i) K)) (mh P w i, .ref b)) t2
        if !false && t2.tooFull then setRelay a (SetTable.grown (es.size + 1))
        return true) Q E s := by
    intro t2 _ _ e3 e4 T e5
    generalize hpp : SetTable.below t.place (way t.mask (mh P w i) K) = p at q2 T ⊢
    have hin : (SetTable.insertAt es p (mh P w i, Value.ref b)).toList = (L.take p ++ (b, i) :: L.drop p).map fun p => (mh P w p.2, Value.ref p.1) := by
      rw [SetTable.toList_insertAt, R.rows, List.map_append, List.map_cons, List.map_take, List.map_drop]
    have hT : TabOk t2 ((L.take p ++ (b, i) :: L.drop p).map fun p => mh P w p.2) := by
      rw [List.map_append, List.map_cons, List.map_take, List.map_drop]; exact T
    have pm := put_perm L p (b, i)
    generalize L.take p ++ (b, i) :: L.drop p = L1 at pm hin hT
    have hlen : L1.length = L.length + 1 := pm.length_eq
    have hsz : (SetTable.insertAt es p (mh P w i, Value.ref b)).size = L.length + 1 := by
      have h := congrArg List.length hin
      rw [Array.length_toList, List.length_map, hlen] at h
      exact h
    generalize SetTable.insertAt es p (mh P w i, Value.ref b) = es1 at hin hsz ⊢
    refine wpAny_bind (wpAny_storeSet_of ho hd ?_ (by rw [hsz, sizeLine_eq]; omega))
    have sb : Heap.SameBut a s.heap (s.heap.update a (Obj.putSet es1 t2)) := Heap.SameBut.update ..
    have ho1 := store_at (es' := es1) (t' := t2) ho hd
    have full : ¬ t2.tooFull = true := by
      rw [e5]
      unfold SetTable.tooFull
      rw [decide_eq_true_eq, q9, List.length_map, q4, R.mask]
      omega
    have R1 : ∃ ep', MsR P w (s.heap.update a (Obj.putSet es1 t2)) a L1 es1 ep' t2 := ⟨_, {
      ob := ⟨_, ho1, ⟨hex.1, hex.2.1, hex.2.2⟩, rfl⟩
      rows := hin
      tab := hT
      mask := by rw [e3, q4]; exact R.mask
      led := by rw [e4, q5]; exact R.led
      few := by omega
      nd := (pm.map (·.2)).nodup_iff.mpr (by rw [List.map_cons]; exact List.nodup_cons.mpr ⟨hn, R.nd⟩)
      tup := fun p hp => by
        rcases List.mem_cons.mp (pm.mem_iff.mp hp) with e | hp
        · rw [e]; exact x.same ho hd sb
        · exact (R.tup p hp).same ho hd sb }⟩
    obtain ⟨ep1, R1⟩ := R1
    first
      | refine wp_if_neg (by simp [full]) ?_
      | (refine wpAny_bind ?_; refine wp_if_neg (by simp [full]) ?_; refine wpAny_pure ?_)
    exact wpAny_pure (q _ L1 es1 ep1 t2 sb R1 pm)
  by_cases hp : t1.plain = true
  · first
      | (refine wpAny_bind ?_; refine wp_if_pos hp ?_; refine m_plain x ?_)
      | refine wp_if_pos hp (wpAny_bind (m_plain x ?_))
    simp only [Bool.false_eq_true, if_false]
    exact go { t1 with plain := false } rfl rfl rfl rfl (tab_mark q3) rfl
  · first
      | (refine wpAny_bind ?_; refine wp_if_neg hp ?_; refine wpAny_pure ?_)
      | refine wp_if_neg hp (wpAny_bind (wpAny_pure ?_))
    simp only [if_true]
    exact go t1 rfl rfl rfl rfl q3 rfl
theorem MsR.keep {h h' : Heap} (R : MsR P w h a L es ep t) (k : ∀ c o, h.get? c = some o → h'.get? c = some o) : MsR P w h' a L es ep t := by
  obtain ⟨o, ho, r⟩ := R.ob
  exact ⟨⟨o, k _ _ ho, r⟩, R.rows, R.tab, R.mask, R.led, R.few, R.nd, fun p hp => (R.tup p hp).keep k⟩
theorem msR_fresh {h : Heap} {a : Addr} (ho : h.get? a = some { cls := .type "set", dict := none, data := .set #[] 0 (.fresh 0 0 (!w.params.followText "set-order")) }) : MsR P w h a [] #[] 0 (.fresh 0 0 (!w.params.followText "set-order")) where
  ob := ⟨_, ho, ⟨rfl, rfl, rfl⟩, rfl⟩
  rows := rfl
  tab := ⟨List.Pairwise.nil, rfl, rfl, .inl rfl, fun x hx => (by cases hx), fun i h j hi => (by simp at hi)⟩
  mask := rfl
  led := by
    show _ ∨ (!w.params.followText "set-order") = true
    cases w.params.followText "set-order"
    · exact .inr rfl
    · exact .inl rfl
  few := by decide
  nd := List.nodup_nil
  tup := fun p hp => (by cases hp)
theorem MsR.keepOn {h h' : Heap} {h0 : Heap} {ks : List (Addr × Nat)} (R : MsR P w h a L es ep t) (ha : ∀ o, h.get? a = some o → h'.get? a = some o) (hk : ∀ p ∈ ks, IsM h0 p.2 p.1) (hs : ∀ p ∈ L, p ∈ ks) (k : ∀ c o, h0.get? c = some o → h'.get? c = some o) : MsR P w h' a L es ep t := by
  obtain ⟨o, ho, r⟩ := R.ob
  exact ⟨⟨o, ha _ ho, r⟩, R.rows, R.tab, R.mask, R.led, R.few, R.nd, fun p hp => (hk p (hs p hp)).keep k⟩
/-- the loop that lays the items into the set -/
theorem m_loop {I : Addr} {fp wr : List Addr} {G : Array GenState → Array GenState → Prop} {n : Nat} {Pv : Nat → Value → Prop} {St : Nat → Shared → Prop} {R : Result → Shared → Prop}
    (W : WalksS P w A.in1 I fp wr G n Pv St) (S : Addr) (hSf : S ∉ fp) (ks : List (Addr × Nat)) (hn : n = ks.length) (hfew : ks.length ≤ 4) (nd : (ks.map (·.2)).Nodup) (hval : ∀ i v, Pv i v → ∃ p, ks[i]? = some p ∧ v = .ref p.1)
    (h0 : Heap) (hk : ∀ p ∈ ks, IsM h0 p.2 p.1) (hS0 : h0.get? S = none) (hw0 : ∀ b ∈ wr, h0.get? b = none) (hu : A.in1.units + 8 < cLine) :
    ∀ (k i : Nat) (s : Shared), n - i = k → i ≤ n → St i s → (∀ b o, h0.get? b = some o → s.heap.get? b = some o) → (∃ L es ep t, MsR P w s.heap S L es ep t ∧ L.Perm (ks.take i)) →
      (∀ s' L es ep t, Moved (S :: wr) G s s' → MsR P w s'.heap S L es ep t → L.Perm ks → (∀ b o, h0.get? b = some o → s'.heap.get? b = some o) → R (.ok (.ret .none)) s') →
      codeAny (model P w) A (.builtin "set.update.loop" ⟨[.ref S, .ref I], []⟩) R s := by
  have hSw : S ∉ wr := fun h => hSf (W.sub _ h)
  have more : ∀ b ∈ wr, b ∈ S :: wr := fun b hb => List.mem_cons_of_mem _ hb
  have still : ∀ {s s' : Shared}, Moved wr G s s' → (∀ b o, h0.get? b = some o → s.heap.get? b = some o) → ∀ b o, h0.get? b = some o → s'.heap.get? b = some o := fun hm hkp b o e =>
    hm.heap b o (fun hb => by rw [hw0 b hb] at e; cases e) (hkp b o e)
  intro k
  induction k with
  | zero =>
    intro i s hk' hi hst hkp ⟨L, es, ep, t, hS, g⟩ hR
    obtain rfl : i = n := by omega
    rw [hn, List.take_length] at g
    refine codeAny_builtin F.entry_set_update_loop ?_
    rw [Around.under_plainId F.plain_set_update_loop _]
    show wpAny _ A.in1 (pyNext (.ref I) >>= _) _ _ s
    refine wpAny_bind (W.done s _ _ hst fun s' hm => ?_)
    have hkp' := still hm hkp
    exact wpAny_pure (hR s' L es ep t (hm.mono more) (hS.keepOn (fun o e => hm.heap S o hSw e) hk (fun p hp => g.mem_iff.mp hp) hkp') g hkp')
  | succ k ih =>
    intro i s hk' hi hst hkp ⟨L, es, ep, t, hS, g⟩ hR
    have hlt : i < n := by omega
    refine codeAny_builtin F.entry_set_update_loop ?_
    rw [Around.under_plainId F.plain_set_update_loop _]
    show wpAny _ A.in1 (pyNext (.ref I) >>= _) _ _ s
    refine wpAny_bind (W.item i s _ _ hlt hst fun v s' hP hst' hm => ?_)
    obtain ⟨p, hp, rfl⟩ := hval i v hP
    have hkp' := still hm hkp
    have sub : ∀ p ∈ L, p ∈ ks := fun p hp => List.mem_of_mem_take (g.mem_iff.mp hp)
    have hS' : MsR P w s'.heap S L es ep t := hS.keepOn (fun o e => hm.heap S o hSw e) hk sub hkp'
    have hx : IsM s'.heap p.2 p.1 := (hk p (List.mem_of_getElem? hp)).keep hkp'
    have tk1 : ks.take (i + 1) = ks.take i ++ [p] := by rw [List.take_add_one, hp]; rfl
    have hnew : p.2 ∉ L.map (·.2) := fun hm' => by
      have h1 : ((ks.take (i + 1)).map (·.2)).Nodup := by
        rw [List.map_take]
        exact nd.sublist (List.take_sublist _ _)
      rw [tk1, List.map_append] at h1
      have h2 := (List.nodup_append.mp h1).2.2
      exact h2 p.2 ((g.map (·.2)).mem_iff.mp hm') p.2 (by simp) rfl
    have hL4 : L.length < 4 := by
      have := g.length_eq
      rw [List.length_take] at this
      omega
    show wpAny _ A.in1 (holding [Value.ref p.1] (setAdd S (.ref p.1)) >>= _) _ _ s'
    refine wpAny_bind (wpAny_holding ?_)
    unfold setAdd
    refine wpAny_holding ?_
    refine wpAny_bind ((nestedKind P w).pyHash hu hx.kind ?_)
    refine m_add (s := { s' with toks := s'.toks + (nestedKind P w).draws (mky p.2) }) hS' hx hnew hL4 hu fun h' L' es' ep' t' hsb hS2 pm => ?_
    have hkp2 : ∀ b o, h0.get? b = some o → h'.get? b = some o := fun b o e => (hsb.2 b (fun z => by rw [z, hS0] at e; cases e)).trans (hkp' b o e)
    have g' : L'.Perm (ks.take (i + 1)) := by
      rw [tk1]
      exact pm.trans ((g.cons _).trans (List.perm_append_singleton _ _).symm)
    refine wpAny_pure ⟨plainId_quiet F.plain_set_update_loop _, ih (i + 1) _ (by omega) hlt (W.frame _ s' _ _ hst' (Nat.le_add_right _ _) fun b hb o e => ?_) hkp2 ⟨L', es', ep', t', hS2, g'⟩ fun s'' L2 es2 ep2 t2 hm'' hS'' g'' hkp'' => ?_⟩
    · rw [hsb.2 b (fun h : b = S => hSf (by rw [← h]; exact hb))]; exact e
    · refine hR s'' L2 es2 ep2 t2 (Moved.trans W.gtrans ((hm.mono more).then_heap (Nat.le_add_right _ _) fun b o hb e => ?_) hm'') hS'' g'' hkp''
      rw [hsb.2 b (fun h : b = S => hb (by rw [h]; exact List.mem_cons_self))]; exact e
end
end Mv

/-! part S3 -/
set_option maxHeartbeats 4000000
namespace Mv
open PySem PySem.Spec L2 PyProof.Rows
section
variable {P : Program} {w : World} {A : Around} {E : Value → Shared → Prop} {s : Shared} {i : Nat} {a b : Addr} {L : List (Addr × Nat)} {es : Array (Int × Value)} {ep : Nat} {t : SetTable}
/-- a new set as the model lays it -/
abbrev newSet (w : World) : Obj := { cls := .type "set", dict := none, data := .set #[] 0 (.fresh 0 0 (!w.params.followText "set-order")) }
/-- what one wants of set.__init__ -/
def SetDone (P : Program) (w : World) (s : Shared) (ks : List (Addr × Nat)) (r : Value) (s2 : Shared) : Prop := r = .none ∧ ∃ h' tk L es ep t, s2 = { s with heap := h', toks := tk } ∧ MsR P w h' s.heap.objs.size L es ep t ∧ L.Perm ks ∧ (∀ b o, s.heap.get? b = some o → h'.get? b = some o)
theorem m_init {l : Addr} {items : Array Value} (ks : List (Addr × Nat)) (hh : A.handled = none) (hl : s.heap.IsList l items) (hit : items.toList = ks.map fun p => Value.ref p.1)
    (hk : ∀ p ∈ ks, IsM s.heap p.2 p.1) (hfew : ks.length ≤ 4) (nd : (ks.map (·.2)).Nodup) (hu : A.units + 12 < cLine) :
    codeAny (model P w) A (.call (.builtin "set.__init__") ⟨[.ref s.heap.objs.size, .ref l], []⟩) (wants (SetDone P w s ks) E) { s with heap := s.heap.push (newSet w) } := by
  have hisz : items.size = ks.length := by
    have q := congrArg List.length hit
    rw [Array.length_toList, List.length_map] at q
    exact q
  have hS : (s.heap.push (newSet w)).get? s.heap.objs.size = some (newSet w) := Heap.get?_push_size _ rfl
  have hT : Shared.TypeIs { s with heap := s.heap.push (newSet w) } (.ref s.heap.objs.size) "set" := ⟨_, hS, rfl⟩
  have hl1 : (s.heap.push (newSet w)).IsList l items := hl.push _
  refine codeAny_call_builtin F.called_set.init.plain F.entry_set_init (check_set_init_1 hT ?_)
  obtain ⟨ol, hol, hcl, nl, hdl⟩ := hl
  obtain ⟨ocls, odict, odata, oslots⟩ := ol
  simp only at hcl hdl
  subst hcl; subst hdl
  have hol' : (s.heap.push (newSet w)).get? l = some { cls := .type "list", dict := odict, data := .seq items nl, slots := oslots } := Heap.get?_push_of_some _ hol
  have hsls := F.sub_list_set
  have hslf := F.sub_list_frozenset
  have hne : (Value.type "list" == Value.type "dict") = false := by decide
  unfold Builtin.«set.__init__» noKeywords Builtin.Frozenset.updateFrom
  generalize hPI : pyIter = PI
  wp_walk
  subst hPI
  refine wpAny_pyIter_list hl1 ?_
  refine wpAny_bind (wpAny_runValue ?_)
  have hlS : l < s.heap.objs.size := Heap.lt_size hol
  have gone : ∀ b, s.heap.objs.size ≤ b → s.heap.get? b = none := fun b hb => by
    cases q : s.heap.get? b with
    | none => rfl
    | some o => exact absurd (Nat.lt_of_lt_of_le (Heap.lt_size q) hb) (Nat.lt_irrefl _)
  have z1 : (s.heap.push (newSet w)).objs.size = s.heap.objs.size + 1 := Heap.size_push ..
  have hneI : l ≠ (s.heap.push (newSet w)).objs.size := by rw [z1]; exact Nat.ne_of_lt (Nat.lt_succ_of_lt hlS)
  have hh3 : A.in1.in1.handled = none := by simp [hh]
  refine m_loop ((Walks.list hh3 _ l hneI items).toS) s.heap.objs.size (by
      rw [z1]; simp only [List.mem_cons, List.mem_singleton, List.not_mem_nil, or_false, not_or]; exact ⟨Nat.ne_of_lt (Nat.lt_succ_self _), Nat.ne_of_gt hlS⟩) ks hisz hfew nd (fun i v hv => ?_) s.heap hk (gone _ (Nat.le_refl _)) (fun b hb => gone b (by rw [List.mem_singleton.mp hb, z1]; exact Nat.le_succ _)) ?hU (items.size - 0) 0 _ (by omega) (Nat.zero_le _)
      ⟨⟨_, Heap.get?_push_size _ rfl, rfl, rfl⟩, (hl1.push _)⟩ (fun b o e => Heap.get?_push_of_some _ (Heap.get?_push_of_some _ e)) ⟨[], #[], 0, _, msR_fresh (Heap.get?_push_of_some _ hS), by simp⟩ ?hR
  case hU => show A.units + 1 + 1 + 8 < cLine; omega
  case hR =>
    intro s' L es ep t hm hS' g' hkp
    obtain ⟨h', g2, d', tk', os'⟩ := s'
    have eg : g2 = s.gens := hm.gens
    have ed : d' = s.drawn := hm.drawn
    have eo : os' = s.os := hm.os
    subst eg; subst ed; subst eo
    exact wpAny_pure (wpAny_pure ⟨rfl, h', tk', L, es, ep, t, rfl, hS', g', hkp⟩)
  · have q : items.toList[i]? = some v := by rw [Array.getElem?_toList]; exact hv
    rw [hit, List.getElem?_map, Option.map_eq_some_iff] at q
    obtain ⟨p, hp, e⟩ := q
    exact ⟨p, hp, e.symm⟩
/-- set(xs), xs at most four turns, all different -/
theorem m_set {l : Addr} {items : Array Value} (ks : List (Addr × Nat)) {Q : Value → Shared → Prop} (hh : A.handled = none) (hl : s.heap.IsList l items) (hit : items.toList = ks.map fun p => Value.ref p.1)
    (hk : ∀ p ∈ ks, IsM s.heap p.2 p.1) (hfew : ks.length ≤ 4) (nd : (ks.map (·.2)).Nodup) (hu : A.units + 14 < cLine)
    (h : ∀ (h' : Heap) (tk : Nat) L es ep t, MsR P w h' s.heap.objs.size L es ep t → L.Perm ks → (∀ b o, s.heap.get? b = some o → h'.get? b = some o) → Q (.ref s.heap.objs.size) { s with heap := h', toks := tk }) :
    wpAny (model P w) A (call (.type "set") [.ref l]) Q E s := by
  obtain ⟨c, tl, hmro⟩ := F.called_set.mro
  have hmade := F.called_set.made
  have hsub := F.called_set.sub
  refine wpAny_call (codeAny_of_tree ?_)
  show wpAny _ _ (callAny (.type "set") _) _ _ _
  refine wpAny_pure ⟨Code.quiet_builtin _ (by decide +kernel), codeAny_builtin F.entry_type_call ?_⟩
  rw [Around.under_plain (weight_type_call_type "set" [.ref l] []) rfl]
  have h1 := F.called_set.notType
  have h2 := F.called_set.canCreate
  have hct := F.typeCall_set_1 (.ref l)
  repeat (any_goals (first | assumption | wp_step))

  refine codeAny_mono (code_set_led1 (.ref l) (E := E) (Q₁ := fun obj s₁ => obj = .ref s.heap.objs.size ∧ s₁ = { s with heap := s.heap.push (newSet w) }) ⟨rfl, rfl⟩) fun r s₁ hr => ?_
  cases r with
  | error e => exact hr
  | ok fl =>
    cases fl with
    | ret obj =>
      obtain ⟨rfl, rfl⟩ := hr
      have hS : (s.heap.push (newSet w)).get? s.heap.objs.size = some (newSet w) := Heap.get?_push_size _ rfl
      have hT : Shared.TypeIs { s with heap := s.heap.push (newSet w) } (.ref s.heap.objs.size) "set" := ⟨_, hS, rfl⟩
      have hli := F.called_set.init.lookup
      have hbi := F.called_set.init.bind (.ref s.heap.objs.size)
      repeat (any_goals (first | assumption | wp_step))

      refine codeAny_mono (m_init (E := E) ks (by simp [hh]) hl hit hk hfew nd ?hU) fun r₂ s₂ hr₂ => ?_
      case hU => show A.units + 1 + 12 < cLine; omega
      cases r₂ with
      | error e => exact hr₂
      | ok fl₂ =>
        cases fl₂ with
        | ret r =>
          obtain ⟨rfl, h', tk, L, es, ep, t, rfl, hS', g', hk'⟩ := hr₂
          repeat (any_goals (first | assumption | wp_step))
          exact h _ _ _ _ _ _ hS' g' hk'
        | _ => exact hr₂.elim
    | _ => exact hr.elim
/-- v stands for the turn i of the set -/
def StM (L : List (Addr × Nat)) (v : Value) (i : Nat) : Prop := ∃ p ∈ L, v = .ref p.1 ∧ i = p.2
theorem each_of (L : List (Addr × Nat)) : ∀ vs : List Value, (∀ v ∈ vs, ∃ p ∈ L, v = .ref p.1) → ∃ bs, PySem.W.EachIs (StM L) vs bs ∧ ∃ ps : List (Addr × Nat), (∀ p ∈ ps, p ∈ L) ∧ vs = ps.map (fun p => .ref p.1) ∧ bs = ps.map (·.2)
  | [], _ => ⟨[], .nil, [], fun p hp => (nomatch hp), rfl, rfl⟩
  | v :: vs, h => by
    obtain ⟨p, hp, e⟩ := h v List.mem_cons_self
    obtain ⟨bs, e1, ps, e2, e3, e4⟩ := each_of L vs fun u hu => h u (List.mem_cons_of_mem _ hu)
    refine ⟨p.2 :: bs, .cons ⟨p, hp, e, rfl⟩ e1, p :: ps, fun q hq => ?_, by rw [List.map_cons, ← e3, ← e], by rw [List.map_cons, e4]⟩
    rcases List.mem_cons.mp hq with rfl | hq
    · exact hp
    · exact e2 q hq
theorem mv_alike (i j : Nat) : PySem.W.alike (mvD i) (mvD j) = true := by
  simp [mvD, PySem.W.alike, PySem.W.alikeAll]
theorem mv_depth (i : Nat) : (mvD i).depth = 1 := by simp [mvD, PyData.depth, PyData.depthAll]
theorem IsM.inj {h : Heap} {i j : Nat} {b : Addr} (x : IsM h i b) (y : IsM h j b) : i = j := by
  obtain ⟨o, t, t1, t2, n, ho, _, hd⟩ := x.ex
  obtain ⟨o', u, u1, u2, m, ho', _, hd'⟩ := y.ex
  rw [ho] at ho'; cases ho'
  rw [hd] at hd'
  injection hd' with hd' _
  have e : [Value.str "turn" t, .int (crn i) t1, .int (sgn i) t2] = [.str "turn" u, .int (crn j) u1, .int (sgn j) u2] := congrArg Array.toList hd'
  injection e with _ e
  injection e with e1 e
  injection e with e2 _
  injection e1 with e1 _
  injection e2 with e2 _
  exact mky_inj (by unfold mky; rw [e1, e2])
/-- sorted(set) -/
theorem m_sorted (R : MsR P w s.heap a L es ep t) (hh : A.handled = none) (hu : A.units + 8 < cLine) {Q : Value → Shared → Prop}
    (q : ∀ s' p (out : List Value) (c : Nat) (bs : List Nat), (∀ b o, s.heap.get? b = some o → s'.heap.get? b = some o) → s'.gens = s.gens → s'.os = s.os → s.heap.objs.size ≤ p → s'.heap.get? p = some (seqObj "list" out.toArray c) →
      bs.Perm (L.map (·.2)) → PySem.W.EachIs (StM L) out (bs.mergeSort (PySem.W.dataLe false mvD)) → Q (.ref p) s') : wpAny (model P w) A (call (.builtin "sorted") [.ref a]) Q E s := by
  obtain ⟨o, ho, hex, hd⟩ := R.ob
  have hsz := R.size
  have hfew := R.few
  refine Calls.call_function_entry kind_sorted plain_sorted entry_sorted (args_sorted1 _) ?_
  unfold Builtin.«sorted»
  refine wpAny_bind (m := checkCount "sorted" 1 1 _) (wpAny_pure ?_)
  refine wpAny_bind (collect_set (A := A.in1) hh ⟨o, ho, hex.1, hd⟩ R.fits (by unfold scanBound; omega) R.tab.ris R.led fun s1 vs k1 hz g1 o1 pm => ?_)
  have hes : es.toList.map (·.2) = L.map fun p => Value.ref p.1 := by
    rw [R.rows, List.map_map]; rfl
  rw [hes] at pm
  obtain ⟨bs, eb, ps, hps, evs, ebs⟩ := each_of L vs fun v hv => by
    obtain ⟨p, hp, e⟩ := List.mem_map.mp (pm.mem_iff.mp hv)
    exact ⟨p, hp, e.symm⟩
  have hvl : vs.length ≤ 4 := by rw [pm.length_eq, List.length_map]; exact hfew
  have pmb : bs.Perm (L.map (·.2)) := by
    -- an address has one number
    have one : ∀ p ∈ L, ∀ r ∈ L, p.1 = r.1 → p = r := fun p hp r hr e => by
      have x := R.tup p hp
      have y := R.tup r hr
      rw [← e] at y
      exact Prod.ext e (x.inj y)
    rw [evs] at pm
    rw [ebs]
    have nL : L.Nodup := nodup_of_map R.nd
    have nref : (L.map fun q => Value.ref q.1).Nodup := by
      refine List.pairwise_map.mpr (List.Pairwise.imp_of_mem (fun {p r} hp hr hne e => ?_) nL)
      injection e with e
      exact hne (one p hp r hr e)
    have n1 : ps.Nodup := nodup_of_map (pm.nodup_iff.mpr nref)
    refine List.Perm.map _ ((List.perm_ext_iff_of_nodup n1 nL).mpr fun p => ⟨hps p, fun hp => ?_⟩)
    obtain ⟨r, hr, e⟩ := List.mem_map.mp (pm.mem_iff.mpr (List.mem_map.mpr ⟨p, hp, rfl⟩))
    injection e with e
    rw [← one r (hps r hr) p hp e]
    exact hr
  refine wpAny_bind (wpAny_newList ?_ (by rw [sizeLine_eq]; omega))
  have hoL : (s1.heap.push (seqObj "list" vs.toArray 0)).get? s1.heap.objs.size = some (seqObj "list" vs.toArray 0) := Heap.get?_push_size _ rfl
  have er : PySem.W.EachIs (fun v b => ∃ as, Reads (s1.heap.push (seqObj "list" vs.toArray 0)) v (mvD b) as ∧ s1.heap.objs.size ∉ as) vs bs := eb.mono fun v i ⟨p, hp, e1, e2⟩ => by
    obtain ⟨o', u, u1, u2, n, ho', hc', hd'⟩ := ((R.tup p hp).keep (fun b o e => Heap.get?_push_of_some _ (k1 b o e))).ex
    rw [e1, e2]
    exact ⟨[], .tuple (h := s1.heap.push (seqObj "list" vs.toArray 0)) ho' hc' hd' (.cons (.str _ _) (.cons (.int _ _) (.cons (.int _ _) .nil))), by simp⟩
  refine wpAny_bind (wpAny_holding (PySem.W.list_sort_data (s := { s1 with heap := s1.heap.push (seqObj "list" vs.toArray 0) }) (enc := mvD) hoL eb er (PySem.W.AllAlike.of mv_alike) (PySem.W.Sortable.tuples fun i => ⟨_, _, rfl⟩) (by rw [sizeLine_eq, ← eb.length]; omega)
    (fun b _ => by rw [mv_depth]; show A.units + 1 + 1 + 1 < cLine; omega) fun out hlen eo => ?_))
  obtain ⟨c, hc⟩ := sortedHeap_at (vs := vs) (out := out.toArray) hoL
  refine wpAny_pure ⟨_, rfl, q _ s1.heap.objs.size out c bs (fun b u e => ?_) g1 o1 hz hc pmb eo⟩
  have q1 := k1 b u e
  have hlt := Heap.lt_size q1
  show (sortedHeap (s1.heap.push (seqObj "list" vs.toArray 0)) s1.heap.objs.size vs out.toArray).get? b = some u
  rw [sortedHeap_old (Nat.ne_of_lt hlt) (by rw [size_push']; exact Nat.lt_succ_of_lt hlt)]
  exact Heap.get?_push_of_some _ q1
end
end Mv

/-! part S4 -/
set_option maxHeartbeats 4000000
namespace Mv
open PySem PySem.Spec L2 PyProof.Rows

/-! ### sorted lists of turns, as data -/
def mvOf : D → Option Nat
  | .tuple [.str x, .int c, .int h] => (match decide (x = ("turn" : Str)) && decide (0 ≤ c) && decide (c < 4) with
    | true => (match decide (h = 1) with
      | true => some (2 * c.toNat + 1)
      | false => (match decide (h = -1) with
        | true => some (2 * c.toNat)
        | false => none))
    | false => none)
  | _ => none
theorem mvOf_some {d : D} {i : Nat} (h : mvOf d = some i) : d = mvD i ∧ i < 8 := by
  unfold mvOf at h
  split at h
  · next x c hh =>
    split at h
    · next e =>
      rw [Bool.and_eq_true, Bool.and_eq_true, decide_eq_true_eq, decide_eq_true_eq, decide_eq_true_eq] at e
      obtain ⟨⟨rfl, e1⟩, e2⟩ := e
      split at h
      · next e3 =>
        obtain rfl : hh = 1 := of_decide_eq_true e3
        cases h
        refine ⟨?_, by omega⟩
        unfold mvD crn sgn
        rw [show (2 * c.toNat + 1) / 2 = c.toNat by omega, show (2 * c.toNat + 1) % 2 = 1 by omega, Int.toNat_of_nonneg e1]; rfl
      · split at h
        · next e3 =>
          obtain rfl : hh = -1 := of_decide_eq_true e3
          cases h
          refine ⟨?_, by omega⟩
          unfold mvD crn sgn
          rw [show (2 * c.toNat) / 2 = c.toNat by omega, show (2 * c.toNat) % 2 = 0 by omega, Int.toNat_of_nonneg e1]; rfl
        · cases h
    · cases h
  · cases h
def mvsOf : List D → Option (List Nat)
  | [] => some []
  | d :: ds => (match mvOf d with
    | some i => (match mvsOf ds with
      | some is => some (i :: is)
      | none => none)
    | none => none)
theorem mvsOf_some : ∀ {ds : List D} {is : List Nat}, mvsOf ds = some is → ds = is.map mvD ∧ ∀ i ∈ is, i < 8
  | [], _, h => by cases h; exact ⟨rfl, by simp⟩
  | d :: ds, _, h => by
    unfold mvsOf at h
    split at h
    · next i e =>
      split at h
      · next is e2 =>
        cases h
        obtain ⟨h1, h2⟩ := mvOf_some e
        obtain ⟨h3, h4⟩ := mvsOf_some e2
        refine ⟨by rw [List.map_cons, ← h1, ← h3], fun j hj => ?_⟩
        rcases List.mem_cons.mp hj with rfl | hj
        · exact h2
        · exact h4 j hj
      · cases h
    · cases h
def nodupB : List Nat → Bool
  | [] => true
  | i :: is => !is.contains i && nodupB is
theorem nodupB_ok : ∀ {is : List Nat}, nodupB is = true → is.Nodup
  | [], _ => List.nodup_nil
  | i :: is, h => by
    unfold nodupB at h
    rw [Bool.and_eq_true] at h
    refine List.nodup_cons.mpr ⟨?_, nodupB_ok h.2⟩
    simpa using h.1
def sortN (is : List Nat) : List Nat := (List.range 8).filter fun i => is.contains i
def sortMv (m : Nat) : List D → Option (List D) := fun ds => match mvsOf ds with
  | some is => (match nodupB is && Nat.ble is.length m with
    | true => some ((sortN is).map mvD)
    | false => none)
  | none => none
theorem mv_le : ∀ i, i < 8 → ∀ j, j < 8 → PySem.W.dataLe false mvD i j = decide (i ≤ j) := by decide +kernel
theorem mv_sort {bs is : List Nat} (h : ∀ i ∈ is, i < 8) (nd : is.Nodup) (p : bs.Perm is) : bs.mergeSort (PySem.W.dataLe false mvD) = sortN is := by
  rw [PySem.W.sort_congr (s := fun i j => decide (i ≤ j)) fun a ha b hb => mv_le a (h a (p.mem_iff.mp ha)) b (h b (p.mem_iff.mp hb))]
  have s1 : (bs.mergeSort fun i j => decide (i ≤ j)).Pairwise (fun a b => a ≤ b) := (List.pairwise_mergeSort (fun a b c h1 h2 => by simp only [decide_eq_true_eq] at *; omega) (fun a b => by simp only [Bool.or_eq_true, decide_eq_true_eq]; omega) bs).imp fun h => by simpa using h
  have s2 : (sortN is).Pairwise (fun a b => a ≤ b) := ((List.pairwise_lt_range (n := 8)).filter _).imp Nat.le_of_lt
  have pm : (bs.mergeSort fun i j => decide (i ≤ j)).Perm (sortN is) := by
    refine (List.mergeSort_perm _ _).trans (p.trans ?_)
    refine (List.perm_ext_iff_of_nodup nd ((List.nodup_range (n := 8)).filter _)).mpr fun i => ?_

    rw [List.mem_filter, List.mem_range]
    simp only [List.contains_iff_mem]
    exact ⟨fun hi => ⟨h i hi, hi⟩, fun hi => hi.2⟩
  exact pm.eq_of_pairwise (fun a b _ _ h1 h2 => Nat.le_antisymm h1 h2) s1 s2
section
variable {X : Cx} {pins : List (Addr × Obj)} {σ : L2.St} {H G : Hp} {s : Shared}
theorem isM_of {b : Addr} {i : Nat} (I : L2.Inv X pins σ H s) (r : Rp X.K H (.ref b) (mvD i)) : IsM s.heap i b := by
  cases r with
  | tup h1 h2 =>
    obtain ⟨its, rv, ⟨o, ho, hc, m, hd⟩, _⟩ := I.tuple h1
    cases h2 with
    | cons a1 h2 =>
    cases h2 with
    | cons a2 h2 =>
    cases h2 with
    | cons a3 h2 =>
    cases h2
    cases a1; cases a2; cases a3
    cases rv with
    | cons b1 rv =>
    cases rv with
    | cons b2 rv =>
    cases rv with
    | cons b3 rv =>
    cases rv
    obtain ⟨t1, rfl⟩ := b1
    obtain ⟨t2, rfl⟩ := b2
    obtain ⟨t3, rfl⟩ := b3
    exact ⟨o, t1, t2, t3, m, ho, hc, hd⟩
end
/-- sorted(list of turns) -/
def sortedD : List D → Option D
  | [.list ds] => (match sortMv 64 ds with
    | some ys => some (.list ys)
    | none => none)
  | _ => none
theorem each_rel {K : PySem.W.Frag} {G : Hp} : ∀ (is : List Nat) (xs : List V) (us : List Value), RpAll K G xs (is.map mvD) → Vals xs us → PySem.W.EachIs (fun u i => ∃ x, RelV x u ∧ Rp K G x (mvD i)) us is
  | [], _, _, h, r => by cases h; cases r; exact .nil
  | i :: is, _, _, h, r => by
    cases h with
    | cons h1 h2 =>
      cases r with
      | cons r1 r2 => exact .cons ⟨_, r1, h1⟩ (each_rel is _ _ h2 r2)
theorem rel_each {K : PySem.W.Frag} {G : Hp} : ∀ (is : List Nat) (us : List Value), PySem.W.EachIs (fun u i => ∃ x, RelV x u ∧ Rp K G x (mvD i)) us is → ∃ xs, RpAll K G xs (is.map mvD) ∧ Vals xs us
  | [], _, h => by cases h; exact ⟨[], .nil, .nil⟩
  | i :: is, _, h => by
    cases h with
    | cons h1 h2 =>
      obtain ⟨x, a1, a2⟩ := h1
      obtain ⟨xs, b1, b2⟩ := rel_each is _ h2
      exact ⟨x :: xs, .cons a2 b1, .cons a1 b2⟩
section
variable {X : Cx}
theorem mv_ref {K : PySem.W.Frag} {G : Hp} {x : V} {i : Nat} (r : Rp K G x (mvD i)) : ∃ b, x = .ref b := by
  cases r with
  | tup _ _ => exact ⟨_, rfl⟩
theorem cl_sorted (hu : X.A.units + 64 < cLine) : CallR X (.builtin "sorted") (rA X.K sortedD) := by
  rintro pins s σ H xs us Q I r ⟨G, ds, d, e, ra, ho, k⟩
  unfold sortedD at ho
  split at ho
  · next ds =>
    split at ho
    · next ys hy =>
      cases ho
      unfold sortMv at hy
      split at hy
      · next is hi =>
        split at hy
        · next hc =>
          cases hy
          rw [Bool.and_eq_true] at hc
          obtain ⟨rfl, hlt⟩ := mvsOf_some hi
          cases ra with
          | cons a1 a2 =>
          cases a2
          cases a1 with
          | @lst l vs _ b1 b2 =>
          rw [Vals.ref1 r]
          have hl : SqL X.K H l vs := .inl (.inl (e _ _ b1))
          obtain ⟨its, rv, hl, hz⟩ := I.list hl
          have ei := each_rel is vs its b2 rv
          have er : PySem.W.EachIs (fun v b => ∃ as, Reads s.heap v (mvD b) as) its is := ei.mono fun v i ⟨x, h1, h2⟩ => by
            obtain ⟨b, rfl⟩ := mv_ref h2
            obtain rfl : v = Value.ref b := h1
            obtain ⟨o', u, u1, u2, n, ho', hc', hd'⟩ := (isM_of I (Rp.mono e _ _ h2)).ex
            exact ⟨[], .tuple ho' hc' hd' (.cons (.str _ _) (.cons (.int _ _) (.cons (.int _ _) .nil)))⟩
          have hlen := Nat.le_of_ble_eq_true hc.2
          refine PySem.W.sorted_data (s := s) (enc := mvD) hl.isList ei er (PySem.W.AllAlike.of mv_alike) (PySem.W.Sortable.tuples fun i => ⟨_, _, rfl⟩) (by rw [sizeLine_eq]; omega) (fun b _ => by rw [mv_depth]; omega) fun out hlo eo => ?_
          rw [mv_sort hlt (nodupB_ok hc.1) (List.Perm.refl _)] at eo
          obtain ⟨zs, z1, z2⟩ := rel_each _ _ eo
          obtain ⟨ep, he'⟩ := PyProof.Rows.sortedAll_at s.heap its out.toArray
          have hn : H (s.heap.objs.size + 1) = none := I.hok.fresh (Nat.le_succ _)
          have hzl : zs.length ≤ sizeLine := by
            have q1 : zs.length = out.length := z2.length
            rw [q1, hlo, sizeLine_eq]; omega
          have J : L2.Inv X pins σ (upd H (s.heap.objs.size + 1) (.lst zs)) { s with heap := sortedAll s.heap its out.toArray } :=
            I.laid (t' := s.toks) (fun _ _ => PyProof.Rows.sortedAll_old) (Nat.le_succ _) ⟨hzl, out, ep, z2, he'⟩
          exact ⟨.ref _, _, J, rfl, k _ _ _ (.new e hn) (.lst upd_same (RpAll.mono (same_new (e.free hn)) _ _ z1))⟩
        · cases hy
      · cases hy
    · cases ho
  · cases ho
end
/-- the set at a, without the tuples themselves -/
def msPhi (P : Program) (w : World) (a : Addr) (ks : List (Addr × Nat)) (h : Heap) : Prop := ∃ (L : List (Addr × Nat)) (es : Array (Int × Value)) (ep : Nat) (t : SetTable), L.Perm ks ∧ (∃ o, h.get? a = some o ∧ o.ExactSet ∧ o.data = .set es ep t) ∧ es.toList = L.map (fun p => (mh P w p.2, Value.ref p.1)) ∧ TabOk t (L.map fun p => mh P w p.2) ∧ t.mask = 7 ∧
  (w.params.followText "set-order" = true ∨ t.led = true) ∧ L.length ≤ 4 ∧ (L.map (·.2)).Nodup
def MsO (P : Program) (w : World) (a : Addr) (ks : List (Addr × Nat)) : HO := .ext (msPhi P w a ks)
theorem msPhi_ok {P : Program} {w : World} {H : Hp} {h : Heap} {a : Addr} {ks : List (Addr × Nat)} (R : msPhi P w a ks h) : ObjOk P w H h a (MsO P w a ks) := by
  have R0 := R
  obtain ⟨L, es, ep, t, _, ⟨o, ho, _⟩, _⟩ := R
  refine ⟨R0, ⟨o, ho⟩, fun h1 h2 p k => ?_⟩
  obtain ⟨L, es, ep, t, q1, ⟨o, ho, q2⟩, q3⟩ := p
  exact ⟨L, es, ep, t, q1, ⟨o, k o ho, q2⟩, q3⟩
def rSetM (K : PySem.W.Frag) (P : Program) (w : World) : List V → Hp → VK → Prop := fun vs H Q => ∃ (G : Hp) (l : Addr) (ks : List (Addr × Nat)), vs = [.ref l] ∧ Same G H ∧ G l = some (.lst (ks.map fun p => .ref p.1)) ∧ (∀ p ∈ ks, Rp K G (.ref p.1) (mvD p.2)) ∧ ks.length ≤ 4 ∧ (ks.map (·.2)).Nodup ∧
  ∀ a, H a = none → Q (.ref a) (upd H a (MsO P w a ks))
def rSortM (K : PySem.W.Frag) (P : Program) (w : World) : List V → Hp → VK → Prop := fun vs H Q => ∃ (G : Hp) (a : Addr) (ks : List (Addr × Nat)), vs = [.ref a] ∧ Same G H ∧ H a = some (MsO P w a ks) ∧ (∀ p ∈ ks, Rp K G (.ref p.1) (mvD p.2)) ∧ (∀ p ∈ ks, p.2 < 8) ∧ (ks.map (·.2)).Nodup ∧
  ∀ ys p, H p = none → RpAll K G ys ((sortN (ks.map (·.2))).map mvD) → Q (.ref p) (upd H p (.lst ys))
theorem vals_ks : ∀ (ks : List (Addr × Nat)) (us : List Value), Vals (ks.map fun p => V.ref p.1) us → us = ks.map fun p => Value.ref p.1
  | [], _, .nil => rfl
  | p :: ks, _, .cons r t => by
    cases r
    rw [vals_ks ks _ t]; rfl
theorem stM_rel {K : PySem.W.Frag} {G : Hp} {L ks : List (Addr × Nat)} (h : ∀ p ∈ ks, Rp K G (.ref p.1) (mvD p.2)) (hs : ∀ p ∈ L, p ∈ ks) {us : List Value} {is : List Nat} (e : PySem.W.EachIs (StM L) us is) : PySem.W.EachIs (fun u i => ∃ x, RelV x u ∧ Rp K G x (mvD i)) us is :=
  e.mono fun u i ⟨p, hp, e1, e2⟩ => ⟨.ref p.1, by rw [e1]; rfl, by rw [e2]; exact h p (hs p hp)⟩
section
variable {X : Cx}
theorem cr_setM (hc : X.calm = true) (hu : X.A.units + 64 < cLine) : CallR X (.type "set") (rSetM X.K X.prog X.w) := by
  rintro pins s σ H xs us Q I r ⟨G, l, ks, rfl, e, hl, hk, hf, nd, q⟩
  rw [Vals.ref1 r]
  obtain ⟨its, rv, pl, hz⟩ := I.list (X := X) (.inl (.inl (e _ _ hl)))
  refine m_set (P := X.prog) (w := X.w) ks (I.ok.hd hc) pl.isList (by simpa using vals_ks ks _ rv) (fun p hp => isM_of I (Rp.mono e _ _ (hk p hp))) hf nd (by omega) fun h' tk L es ep t R pm kp => ?_
  have new : msPhi X.prog X.w s.heap.objs.size ks h' := ⟨L, es, ep, t, pm, R.ob, R.rows, R.tab, R.mask, R.led, R.few, R.nd⟩
  exact ⟨.ref s.heap.objs.size, _, I.laid (t' := tk) kp (Nat.le_refl _) (msPhi_ok new), rfl, q _ (I.hok.fresh (Nat.le_refl _))⟩
theorem cr_sortM (hc : X.calm = true) (hu : X.A.units + 64 < cLine) : CallR X (.builtin "sorted") (rSortM X.K X.prog X.w) := by
  rintro pins s σ H xs us Q I r ⟨G, a, ks, rfl, e, ha, hk, h8, nd, q⟩
  obtain ⟨⟨L, es, ep, t, pm, ob, rows, tab, mask, led, few, ndL⟩, _⟩ := I.hok a _ ha
  have R : MsR X.prog X.w s.heap a L es ep t := ⟨ob, rows, tab, mask, led, few, ndL, fun p hp => isM_of I (Rp.mono e _ _ (hk p (pm.mem_iff.mp hp)))⟩
  rw [Vals.ref1 r]
  refine m_sorted R (I.ok.hd hc) (by omega) fun s' p out c bs kp g o hp hg pb eo => ?_
  rw [mv_sort (is := ks.map (·.2)) (fun i hi => by obtain ⟨p, hp, rfl⟩ := List.mem_map.mp hi; exact h8 p hp) nd (pb.trans (pm.map _))] at eo
  obtain ⟨ys, y1, y2⟩ := rel_each _ _ (stM_rel hk (fun p hp => pm.mem_iff.mp hp) eo)
  have hn : H p = none := I.hok.fresh hp
  have hlen : ys.length ≤ sizeLine := by
    have q1 := y1.length
    have q2 : ((sortN (ks.map (·.2))).map mvD).length ≤ 8 := by
      rw [List.length_map]
      exact Nat.le_trans (List.length_filter_le _ _) (by simp)
    rw [sizeLine_eq]; omega
  have J : L2.Inv X pins σ (upd H p (.lst ys)) { s with heap := s'.heap, gens := s'.gens, drawn := s'.drawn, toks := s'.toks } :=
    I.call (ch := []) (Un.laid kp hp hn) (I.hok.laid kp hp ⟨hlen, out, c, y2, hg⟩) (by rw [g]; exact I.bare) (fun _ z => nomatch z)
  have e' : s' = { s with heap := s'.heap, gens := s'.gens, drawn := s'.drawn, toks := s'.toks } := by
    cases s'
    cases s
    cases o
    rfl
  rw [e']
  exact ⟨.ref p, _, J, rfl, q ys p hn y1⟩
end
/-- tuple(sorted(set(x))) -/
def setOfD : D → Option D
  | .list ds => (match sortMv 4 ds with
    | some ys => some (.tuple ys)
    | none => none)
  | _ => none
theorem addrs_of {K : PySem.W.Frag} {G : Hp} : ∀ (is : List Nat) (xs : List V), RpAll K G xs (is.map mvD) → ∃ ks : List (Addr × Nat), xs = ks.map (fun p => .ref p.1) ∧ is = ks.map (·.2) ∧ ∀ p ∈ ks, Rp K G (.ref p.1) (mvD p.2)
  | [], _, h => by cases h; exact ⟨[], rfl, rfl, by simp⟩
  | i :: is, _, h => by
    cases h with
    | cons h1 h2 =>
      obtain ⟨b, rfl⟩ := mv_ref h1
      obtain ⟨ks, rfl, rfl, h3⟩ := addrs_of is _ h2
      refine ⟨(b, i) :: ks, rfl, rfl, fun p hp => ?_⟩
      rcases List.mem_cons.mp hp with rfl | hp
      · exact h1
      · exact h3 p hp
section
variable {X : Cx} {e : Expr} {f : Ev → Option D} {p p1 p2 pos pos1 pos2 : Pos}
theorem xsetof (hc : X.calm = true) (hu : X.A.units + 64 < cLine) (ht : X.mg "tuple" = none) (hs : X.mg "sorted" = none) (hse : X.mg "set" = none) (gt : Gl X "tuple") (gs : Gl X "sorted") (gse : Gl X "set") (he : PE X e (tD X.K f))
    (s1 : starEach [e] X.env = (false, eval e X.env) :: starEach [] X.env := by rfl)
    (s2 : starEach [.Call (.Name "set" p2) [e] [] pos2] X.env = (false, eval (.Call (.Name "set" p2) [e] [] pos2) X.env) :: starEach [] X.env := by rfl)
    (s3 : starEach [.Call (.Name "sorted" p1) [.Call (.Name "set" p2) [e] [] pos2] [] pos1] X.env = (false, eval (.Call (.Name "sorted" p1) [.Call (.Name "set" p2) [e] [] pos2] [] pos1) X.env) :: starEach [] X.env := by rfl)
    (hp2 : (backTo pos2 (starEach [] X.env)).any (·.1) = false := by rfl) (hp1 : (backTo pos1 (starEach [] X.env)).any (·.1) = false := by rfl) (hp : (backTo pos (starEach [] X.env)).any (·.1) = false := by rfl) :
    PE X (.Call (.Name "tuple" p) [.Call (.Name "sorted" p1) [.Call (.Name "set" p2) [e] [] pos2] [] pos1] [] pos) (tD X.K (o1 setOfD f)) := by
  refine PE.imp (pe_callTy cl_tuple gt ht (by decide +kernel) (pa_cons (pe_callB (cr_sortM hc hu) gs hs (by decide +kernel) (pa_cons (pe_callTy (cr_setM hc hu) gse hse (by decide +kernel) (pa_cons he pa_nil s1) (he := s1) (hpl := hp2)) pa_nil s2) (he := s2) (hpl := hp1)) pa_nil s3) (he := s3) (hpl := hp)) ?_
  rintro σ H Q ⟨G, ρ, d, e, r, hf, k⟩
  obtain ⟨x, h1, h2⟩ := o1_some hf
  refine ⟨G, ρ, x, e, r, h1, fun v G1 H1 g1 r1 => ?_⟩
  unfold setOfD at h2
  split at h2
  · next ds =>
    split at h2
    · next ys hy =>
      cases h2
      unfold sortMv at hy
      split at hy
      · next is hi =>
        split at hy
        · next hc =>
          cases hy
          rw [Bool.and_eq_true] at hc
          obtain ⟨rfl, hlt⟩ := mvsOf_some hi
          cases r1 with
          | @lst l vs _ b1 b2 =>
          obtain ⟨ks, rfl, rfl, h3⟩ := addrs_of _ _ b2
          have nd := nodupB_ok hc.1
          refine ⟨G1, l, ks, rfl, g1.i, b1, h3, by have := Nat.le_of_ble_eq_true hc.2; rwa [List.length_map] at this, nd, fun a ha => ?_⟩
          have g2 := Grow.side (p := a) (o := MsO X.prog X.w a ks) g1.i ha
          refine ⟨G1, a, ks, rfl, g2.i, upd_same, h3, fun p hp => hlt p.2 (List.mem_map.mpr ⟨p, hp, rfl⟩), nd, fun ys q hq y1 => ?_⟩
          have g3 := Grow.new (p := q) (o := .lst ys) g2.i hq
          refine ⟨_, [.list ((sortN (ks.map (·.2))).map mvD)], .tuple ((sortN (ks.map (·.2))).map mvD), g3.i, .cons (.lst upd_same (RpAll.mono g3.g _ _ y1)) .nil, rfl, fun v4 G4 H4 g4 r4 => ?_⟩
          exact k v4 G4 H4 (g1.trans (g2.trans (g3.trans g4))) r4
        · cases hy
      · cases hy
    · cases h2
  · cases h2
end
end Mv

/-! part E2 -/
set_option maxHeartbeats 4000000
namespace Mv
open PySem PySem.Spec L2

/-! ### calls by keywords, the parameters' order turned round -/
def gR : List Value → List Value → List Value
  | [], ws => ws.reverse
  | _ :: _, _ => []
def gRV : List V → List V → List V
  | [], zs => zs.reverse
  | _ :: _, _ => []
theorem vals_append {vs ws : List V} {us xs : List Value} (h : Vals vs us) (h2 : Vals ws xs) : Vals (vs ++ ws) (us ++ xs) := by
  unfold Vals at *
  induction h with
  | nil => exact h2
  | cons a _ ih => exact .cons a ih
theorem vals_rev : ∀ {zs : List V} {ws : List Value}, Vals zs ws → Vals zs.reverse ws.reverse
  | _, _, .nil => .nil
  | _, _, .cons h t => by
    rw [List.reverse_cons, List.reverse_cons]
    exact vals_append (vals_rev t) (.cons h .nil)
theorem rpAll_rev {K : PySem.W.Frag} {G : Hp} : ∀ {vs : List V} {ds : List D}, RpAll K G vs ds → RpAll K G vs.reverse ds.reverse
  | _, _, .nil => .nil
  | _, _, .cons h t => by
    rw [List.reverse_cons, List.reverse_cons]
    exact (rpAll_rev t).append (.cons h .nil)
theorem Fun.kbinds {K : PySem.W.Frag} {x qual : Str} {st : Stmt} {f : Addr} {fd : FuncData} {ps : List Str} (F : Fun K x qual st f fd) (hp : ps ≠ [])
    (h : ∀ (kV doc pm : Value) (an : Option Addr) (cdv ct : Value) (ws : List Value), ws.length = ps.length → bindArgs (PySem.W.fnOf x qual (defArgs st) (defBody st) (defScope st) .none kV doc pm an cdv ct) ⟨[], ps.reverse.zip ws⟩ = pure (ps.zip ws.reverse)) : KBinds K fd ps ps.reverse gR gRV := by
  obtain ⟨oc, od, kV, doc, pm, an, cdv, ct, osl, rfl, lk, hcd⟩ := F.ex
  refine ⟨fun s us ws _ hl => ?_, fun {vs us zs ws} r rz => ?_⟩
  · cases us with
    | nil => exact BindsTo.of_eq (h kV doc pm an cdv ct ws (by have : ws.reverse.length = ps.length := hl; rwa [List.length_reverse] at this))
    | cons u us => exact absurd (List.length_eq_zero_iff.mp hl.symm) hp
  · cases r with
    | nil => exact vals_rev rz
    | cons _ _ => exact .nil
structure CalK (P : Program) (w : World) (K : PySem.W.Frag) (mg : Str → Option Value) (base : Heap) (k : Nat) (x : Str) (ps : List Str) (op : List D → Option D) : Prop where
  ex : ∃ (f : Addr) (fd : FuncData), FnOk P w K mg base CX0 k f fd ps (spD K op) ∧ mg x = some (.ref f) ∧ PySem.W.keepIn K (.ref f) = true ∧ KBinds K fd ps ps.reverse gR gRV
def revD (op : List D → Option D) : List D → Option D := fun ds => op ds.reverse
section
variable {P : Program} {w : World} {K : PySem.W.Frag} {mg : Str → Option Value} {base : Heap}
theorem cal_DK {x : Str} {st : Stmt} {N ps : List Str} {k : Nat} {fb : Ev → Option Out} (F : Df K mg x st ps) (S : FnScope N ps (defScope st)) (hp : ps ≠ [])
    (h : ∀ (kV doc pm : Value) (an : Option Addr) (cdv ct : Value) (ws : List Value), ws.length = ps.length → bindArgs (PySem.W.fnOf x x (defArgs st) (defBody st) (defScope st) .none kV doc pm an cdv ct) ⟨[], ps.reverse.zip ws⟩ = pure (ps.zip ws.reverse))
    (hb : ∀ (f : Addr) (cdv : Value) (A : Around) (outer : List Env) (s : Shared) (H : Hp) (E : XK), Room k (A.deeper (PyProof.Rows.envOfC x (defScope st) s.heap.objs.size f cdv)) →
      PSs (cxOf CX0 P w K mg base N x (defScope st) f cdv A outer s H E).nox (defBody st) (sD K fb)) : CalK P w K mg base (k + 1) x ps (runF ps.length N.length fb) := by
  obtain ⟨f, fd, F, hm, hbi⟩ := F.ex
  exact ⟨f, fd, fn_D F S (hb f), hm, F.kp, Fun.kbinds F hp h⟩
end
section
variable {X : Cx} {e : Expr} {kws : List Keyword} {pos p kpos : Pos} {f : Ev → Option D} {h : Ev → Option (List D)} {op : List D → Option D} {x : Str} {ps : List Str} {nm : Option Str}
theorem PK.imp {t t' : TA} (x : PK X kws t) (w : ∀ σ H Q, t' σ H Q → t σ H Q) : PK X kws t' := ⟨fun po pins s σ H Q I z => x.run po pins s σ H Q I (w σ H Q z)⟩
theorem kn : PK X [] (aD X.K nilA) := by
  refine PK.imp pk_nil ?_
  rintro σ H Q ⟨G, ρ, ds, e, r, hf, k⟩
  cases hf
  exact k [] G H (.refl e) .nil
theorem kc (he : PE X e (tD X.K f)) (hr : PK X kws (aD X.K h)) : PK X (⟨nm, e, kpos⟩ :: kws) (aD X.K (consA f h)) := by
  refine PK.imp (pk_cons he hr) ?_
  rintro σ H Q ⟨G, ρ, ds, e, r, hf, k⟩
  unfold consA at hf
  split at hf
  · next d e1 =>
    split at hf
    · next ds e2 =>
      cases hf
      exact ⟨G, ρ, d, e, r, e1, fun v G1 H1 g1 r1 => ⟨G1, ρ, ds, g1.i, r.mono g1.g, e2, fun vs G2 H2 g2 r2 => k (v :: vs) G2 H2 (g1.trans g2) (.cons (Rp.mono g2.g _ _ r1) r2)⟩⟩
    · cases hf
  · cases hf
theorem xcallK {k j : Nat} (c : CalK X.prog X.w X.K X.mg X.base k x ps op) (hr : Room j X.A) (hk : k ≤ j) (hg : Gl X x) (ha : PK X kws (aD X.K h)) (hks : (backToKw pos (keywordEach kws X.env)).filterMap (·.1) = ps.reverse := by rfl) (hall : (backToKw pos (keywordEach kws X.env)).all (·.1.isSome) = true := by rfl)
    (hpl : ((backTo pos (starEach [] X.env)).any (·.1) || (backToKw pos (keywordEach kws X.env)).any (·.1.isNone)) = false := by rfl) (hdb : (x == ("__debug__" : Str)) = false := by decide) : PE X (.Call (.Name x p) [] kws pos) (tD X.K (aE (revD op) h)) := by
  obtain ⟨f, fd, F, hm, kp, b⟩ := c.ex
  refine ⟨fun pins s σ H Q I hq => ?_⟩
  refine wpAny_Call_Name_kw (ld_glob I hg hm ?_ hdb)
  obtain ⟨G, ρ, d, e, r, hf, kk⟩ := hq
  obtain ⟨ds, h1, h2⟩ := aE_some hf
  refine PySem.W.callWith_KW0 (h₀ := X.base) I.ok.mod.kin kp hall (thn (ha.run pos pins s σ H (fun zs H1 => spD X.K op (gRV [] zs) H1 Q E0) I ⟨G, ρ, ds, e, r, h1, fun zs G1 H1 g1 r1 => ?_⟩) fun ws s2 ⟨zs, H2, I2, rz, q2⟩ => ⟨I2.kIn, ?_⟩) hpl
  · exact ⟨G1, ds.reverse, d, g1.i, rpAll_rev r1, h2, fun v G' H' g2 r2 => kk v G' H' (g1.trans g2) r2⟩
  · rw [hks]
    exact run_fnk F (hr.mono hk) b pass0 I2 .nil rz q2
end

/-! ### _law_heard -/
/-- the callee is any expression that is a def -/
def tCallF (f : Addr) (sp : Sp) (E : L2.St → XK) (tf : TE) (t : TA) : TE := fun σ H Q => tf σ H fun v H1 => v = .ref f ∧ t σ H1 fun vs H2 => sp vs H2 Q (E σ)
theorem pe_callF {X : Cx} {CX : CXT} {k : Nat} {f : Addr} {fd : FuncData} {ps : List Str} {sp : Sp} {E : L2.St → XK} {pos : Pos} {fe e : Expr} {es : List Expr} {tf : TE} {t : TA} (hf : PE X fe tf) (F : FnOk X.prog X.w X.K X.mg X.base CX k f fd ps sp) (hr : Room k X.A) (hk : PySem.W.keepIn X.K (.ref f) = true) (hb : Binds X.K fd ps []) (hx : ∀ σ, PassesAt CX X σ (E σ)) (ha : PA X (e :: es) t)
    (ht : eval (.Call fe (e :: es) [] pos) X.env = (do callWith pos (← eval fe X.env) [] (backTo pos (starEach (e :: es) X.env)) (backToKw pos (keywordEach [] X.env))) := by rfl)
    (he : starEach (e :: es) X.env = (false, eval e X.env) :: starEach es X.env := by rfl) (hpl : (backTo pos (starEach es X.env)).any (·.1) = false := by rfl) : PE X (.Call fe (e :: es) [] pos) (tCallF f sp E tf t) := by
  refine ⟨fun pins s σ H Q I h => ?_⟩
  refine PyProof.Rows.Call_ (thn (hf.run pins s σ H _ I h) fun u s1 ⟨y, H1, I1, ry, ey, q⟩ => ?_) ht
  subst ey
  obtain rfl : u = Value.ref f := ry
  refine PySem.W.callWith_K (h₀ := X.base) I.ok.mod.kin hk (thn (ha.run pos pins s1 σ H1 _ I1 q) fun us s2 ⟨vs, H2, I2, r, q2⟩ => ⟨I2.kIn, ?_⟩) he hpl
  exact run_fnS F hr hb (hx σ) I2 r q2
theorem passAt0 {X : Cx} {σ : L2.St} {E : XK} : PassesAt CX0 X σ E := fun _ _ _ _ _ _ h => h.elim
theorem pss_pre {X : Cx} {st : List Stmt} {t : TS} {p : Prop} (h : p → PSs X st t) : PSs X st (fun De σ H => p ∧ t De σ H) := ⟨fun pins s σ H De I q => (h q.1).run pins s σ H De I q.2⟩
def canNotD : D := .list [.str "can not", .bool true]
def heardR (F : List D → Option D) (R : List D → Bool) (ds : List D) : Option D := match R ds with
  | true => some canNotD
  | false => F ds
end Mv

/-! part G6 -/
set_option maxHeartbeats 4000000
namespace Mv
open PySem PySem.Spec L2
section
variable {P : Program} {w : World} {K : PySem.W.Frag} {mg : Str → Option Value} {base : Heap}

/-! ### set_of -/
def B_set_of : Ev → Option Out := (rtE (o1 setOfD (vE 0)))
def F_set_of : List D → Option D := runF 1 1 B_set_of
theorem sc_set_of : FnScope ["row"] ["row"] (defScope (topS 9)) := ⟨rfl, rfl, rfl, by decide +kernel, rfl, by decide +kernel, by decide +kernel⟩
theorem cal_set_of (B : Bt mg) (F : Df K mg "set_of" (topS 9) ["row"])    : Cal P w K mg base 1 "set_of" F_set_of :=
  cal_D (N := ["row"]) F sc_set_of fun f cdv A outer s H E hr => have nd := (sc_set_of).nd
    (z1 (zret (xsetof rfl hr.units B.tuple_ B.sorted_ B.set_ rfl rfl rfl (xv 0 rfl (Or.inl rfl)))))


/-! ### first_turns -/
def B_first_turns : Ev → Option Out := (sqE (atE (.tup [2, 3]) (aE F_sure_turned (consA (vE 0) (consA (vE 1) nilA))))
  (rtE (aE F_set_of (consA (aE F_first_turns_in (consA (vE 2) (consA (vE 3) nilA))) nilA))))
def F_first_turns : List D → Option D := runF 2 4 B_first_turns
theorem sc_first_turns : FnScope ["stand", "goal", "own", "far"] ["stand", "goal"] (defScope (topS 46)) := ⟨rfl, rfl, rfl, by decide +kernel, rfl, by decide +kernel, by decide +kernel⟩
theorem cal_first_turns (B : Bt mg) (F : Df K mg "first_turns" (topS 46) ["stand", "goal"]) (c_sure_turned : Cal P w K mg base 10 "sure_turned" F_sure_turned) (c_first_turns_in : Cal P w K mg base 5 "first_turns_in" F_first_turns_in) (c_set_of : Cal P w K mg base 1 "set_of" F_set_of)   : Cal P w K mg base 11 "first_turns" F_first_turns :=
  cal_D (N := ["stand", "goal", "own", "far"]) F sc_first_turns fun f cdv A outer s H E hr => have nd := (sc_first_turns).nd
    (zc (zasg (xcall c_sure_turned hr (by decide) rfl (ac (xv 0 rfl (Or.inl rfl)) (ac (xv 1 rfl (Or.inl rfl)) an))) (gt rfl (gn1 (pg_name nd rfl (Or.inl rfl)) (gn1 (pg_name nd rfl (Or.inl rfl)) gn0))))
    (z1 (zret (xcall c_set_of hr (by decide) rfl (ac (xcall c_first_turns_in hr (by decide) rfl (ac (xv 2 rfl (Or.inl rfl)) (ac (xv 3 rfl (Or.inl rfl)) an))) an)))))


theorem calK_can_turn_to (B : Bt mg) (F : Df K mg "can_turn_to" (topS 36) ["stand", "goal"]) (c_both_stands : Cal P w K mg base 9 "both_stands" F_both_stands) (c_bar_in : Cal P w K mg base 3 "bar_in" F_bar_in)   : CalK P w K mg base 10 "can_turn_to" ["stand", "goal"] F_can_turn_to :=
  cal_DK (N := ["stand", "goal", "own", "far"]) F sc_can_turn_to (by decide) (fun kV doc pm an cdv ct ws hl => match ws, hl with | [_, _], _ => rfl) fun f cdv A outer s H E hr => have nd := (sc_can_turn_to).nd
    (zc (zasg (xcall c_both_stands hr (by decide) rfl (ac (xv 0 rfl (Or.inl rfl)) (ac (xv 1 rfl (Or.inl rfl)) an))) (gt rfl (gn1 (pg_name nd rfl (Or.inl rfl)) (gn1 (pg_name nd rfl (Or.inl rfl)) gn0))))
    (z1 (zret (xcmp (op_dEq hr.units) (xcall c_bar_in hr (by decide) rfl (ac (xv 2 rfl (Or.inl rfl)) (ac (xv 3 rfl (Or.inl rfl)) an))) xc_str (nomark _)))))


theorem calK_fewest_turns (B : Bt mg) (F : Df K mg "fewest_turns" (topS 44) ["stand", "goal"]) (c_sure_turned : Cal P w K mg base 10 "sure_turned" F_sure_turned) (c_fewest_turned_in : Cal P w K mg base 3 "fewest_turned_in" F_fewest_turned_in)   : CalK P w K mg base 11 "fewest_turns" ["stand", "goal"] F_fewest_turns :=
  cal_DK (N := ["stand", "goal", "own", "far"]) F sc_fewest_turns (by decide) (fun kV doc pm an cdv ct ws hl => match ws, hl with | [_, _], _ => rfl) fun f cdv A outer s H E hr => have nd := (sc_fewest_turns).nd
    (zc (zasg (xcall c_sure_turned hr (by decide) rfl (ac (xv 0 rfl (Or.inl rfl)) (ac (xv 1 rfl (Or.inl rfl)) an))) (gt rfl (gn1 (pg_name nd rfl (Or.inl rfl)) (gn1 (pg_name nd rfl (Or.inl rfl)) gn0))))
    (z1 (zret (xcall c_fewest_turned_in hr (by decide) rfl (ac (xv 2 rfl (Or.inl rfl)) (ac (xv 3 rfl (Or.inl rfl)) an))))))


theorem calK_is_turn_plan (B : Bt mg) (F : Df K mg "is_turn_plan" (topS 53) ["stand", "goal", "thing"]) (c_both_stands : Cal P w K mg base 9 "both_stands" F_both_stands) (c_bar_in : Cal P w K mg base 3 "bar_in" F_bar_in) (c_is_turn_plan_in : Cal P w K mg base 6 "is_turn_plan_in" F_is_turn_plan_in)   : CalK P w K mg base 10 "is_turn_plan" ["stand", "goal", "thing"] F_is_turn_plan :=
  cal_DK (N := ["stand", "goal", "thing", "own", "far"]) F sc_is_turn_plan (by decide) (fun kV doc pm an cdv ct ws hl => match ws, hl with | [_, _, _], _ => rfl) fun f cdv A outer s H E hr => have nd := (sc_is_turn_plan).nd
    (zc (zasg (xcall c_both_stands hr (by decide) rfl (ac (xv 0 rfl (Or.inl rfl)) (ac (xv 1 rfl (Or.inl rfl)) an))) (gt rfl (gn1 (pg_name nd rfl (Or.inl rfl)) (gn1 (pg_name nd rfl (Or.inl rfl)) gn0))))
    (z1 (zret (xand (xcmp (op_dEq hr.units) (xcall c_bar_in hr (by decide) rfl (ac (xv 3 rfl (Or.inl rfl)) (ac (xv 4 rfl (Or.inl rfl)) an))) xc_str (nomark _)) (xone (xcall c_is_turn_plan_in hr (by decide) rfl (ac (xv 3 rfl (Or.inl rfl)) (ac (xv 4 rfl (Or.inl rfl)) (ac (xv 2 rfl (Or.inl rfl)) an)))))))))

end
end Mv

/-! part E3 -/
set_option maxHeartbeats 4000000
namespace Mv
open PySem PySem.Spec L2

def F_heardN : Nat → List D → Option D
  | 0 => heardR F_fewest_turns R_sure
  | 1 => heardR F_first_turns R_sure
  | 2 => heardR F_turn_plan R_sure
  | 3 => heardR F_why_not_turned R_why
  | _ => fun _ => none
def F_law_heard : List D → Option D
  | [.int (.ofNat n), a, b] => F_heardN n [a, b]
  | _ => none
def N_heard : List Str := ["_law_door", "_law_one", "_law_two", "slip_so"]
theorem sc_law_heard : FnScope N_heard ["_law_door", "_law_one", "_law_two"] (defScope (topS 78)) := ⟨rfl, rfl, rfl, by decide +kernel, rfl, by decide +kernel, by decide +kernel⟩
/-- the reading of the callee's tuple, read at door -/
theorem t_door {K : PySem.W.Frag} {f0 f1 f2 f3 f : Addr} {sp : Sp} {E : L2.St → XK} {σ : L2.St} {G H : Hp} {ρ : Ev} {n : Nat} {a b : D} {Q : VK} (e : Same G H) (r : Rs K G σ ρ) (h0 : nth ρ 0 = some (.int (.ofNat n))) (h1 : nth ρ 1 = some a) (h2 : nth ρ 2 = some b) (hn : ([V.ref f0, .ref f1, .ref f2, .ref f3])[n]? = some (.ref f))
    (k : ∀ vs G' H', Grow G H G' H' → RpAll K G' vs [a, b] → sp vs H' Q (E σ)) :
    tCallF f sp E (tOp (rIxT K) (tTup (tCons (tC (.ref f0)) (tCons (tC (.ref f1)) (tCons (tC (.ref f2)) (tCons (tC (.ref f3)) tNil))))) (tD K (vE 0))) (aD K (consA (vE 1) (consA (vE 2) nilA))) σ H Q := by
  refine ⟨by show 4 ≤ sizeLine; decide, fun p hp => ?_⟩
  have g := Grow.side (p := p) (o := .tup [V.ref f0, .ref f1, .ref f2, .ref f3]) e hp
  refine ⟨G, ρ, _, g.i, r, h0, fun y G1 H1 g1 r1 => ?_⟩
  cases r1
  refine ⟨p, _, _, .ref f, rfl, rfl, .inl (.inl (g1.h _ _ upd_same)), atI_nat hn, rfl, ?_⟩
  refine ⟨G1, ρ, [a, b], g1.i, r.mono g1.g, ?_, fun vs G2 H2 g2 r2 => k vs G2 H2 (g.trans (g1.trans g2)) r2⟩
  unfold consA vE nilA
  rw [h1, h2]
section
variable {P : Program} {w : World} {K : PySem.W.Frag} {mg : Str → Option Value} {base : Heap} {C : Addr}
theorem cal_law_heard (B : Bt mg) (T : Cn K mg C) (F : Df K mg "_law_heard" (topS 78) ["_law_door", "_law_one", "_law_two"])
    (c0 : Cal P w K mg base 11 "fewest_turns" F_fewest_turns) (c1 : Cal P w K mg base 11 "first_turns" F_first_turns) (c2 : Cal P w K mg base 11 "turn_plan" F_turn_plan) (c3 : Cal P w K mg base 11 "why_not_turned" F_why_not_turned)
    (x0 : CalX P w K mg base C 11 "fewest_turns" R_sure) (x1 : CalX P w K mg base C 11 "first_turns" R_sure) (x2 : CalX P w K mg base C 11 "turn_plan" R_sure) (x3 : CalX P w K mg base C 11 "why_not_turned" R_why) : Cal P w K mg base 12 "_law_heard" F_law_heard := by
  obtain ⟨f, fd, F, hm, hbi⟩ := F.ex
  obtain ⟨f0, fd0, ps0, F0, m0, k0, b0⟩ := c0.ex
  obtain ⟨f1, fd1, ps1, F1, m1, k1, b1⟩ := c1.ex
  obtain ⟨f2, fd2, ps2, F2, m2, k2, b2⟩ := c2.ex
  obtain ⟨f3, fd3, ps3, F3, m3, k3, b3⟩ := c3.ex
  obtain ⟨y0, xd0, xs0, X0, n0, _, xb0⟩ := x0.ex
  obtain ⟨y1, xd1, xs1, X1, n1, _, xb1⟩ := x1.ex
  obtain ⟨y2, xd2, xs2, X2, n2, _, xb2⟩ := x2.ex
  obtain ⟨y3, xd3, xs3, X3, n3, _, xb3⟩ := x3.ex
  obtain rfl : f0 = y0 := by rw [m0] at n0; cases n0; rfl
  obtain rfl : f1 = y1 := by rw [m1] at n1; cases n1; rfl
  obtain rfl : f2 = y2 := by rw [m2] at n2; cases n2; rfl
  obtain rfl : f3 = y3 := by rw [m3] at n3; cases n3; rfl
  refine ⟨f, fd, _, ?_, hm, F.kp, hbi⟩
  have nd := sc_law_heard.nd
  refine F.ok sc_law_heard (fun vs H Q E h => ?_) (fun cdv A outer s H vs Q E hr h => ?_)
  · obtain ⟨G, ds, d, e, r, ho, _⟩ := h
    rw [r.length]
    unfold F_law_heard at ho
    split at ho
    · rfl
    · cases ho
  obtain ⟨G, ds, d, e, r, ho, k⟩ := h
  unfold F_law_heard at ho
  split at ho
  · next n a b =>
    have rs0 : Rs K G (L2.start N_heard vs) (padE [.int (.ofNat n), a, b] 4) := rs_start r (by simp [N_heard])
    have e0 : nth (padE [PyData.int (.ofNat n), a, b] 4) 0 = some (.int (.ofNat n)) := rfl
    have e1 : nth (padE [PyData.int (.ofNat n), a, b] 4) 1 = some a := rfl
    have e2 : nth (padE [PyData.int (.ofNat n), a, b] 4) 2 = some b := rfl
    -- what the callee's expression is, whichever way
    have ret : ∀ {g : Addr} {gd : FuncData} {gs : List Str} {op : List D → Option D}, FnOk P w K mg base CX0 11 g gd gs (spD K op) → PySem.W.keepIn K (.ref g) = true → Binds K gd gs [] → ([V.ref f0, .ref f1, .ref f2, .ref f3])[n]? = some (.ref g) → op [a, b] = some d →
        ∃ t, PSs (cxOf CX0 P w K mg base N_heard "_law_heard" (defScope (topS 78)) f cdv A outer s H E).nox (defBody (topS 78)) t ∧ t { nx := fun _ H' => Q .non H', rt := Q } (L2.start N_heard vs) H := by
      intro g gd gs op Fg kg bg hn hop
      refine ⟨_, pss_one (ps_try_thru0 (pss_one (ps_ret (pe_callF (sp := spD K op) (E := fun _ => E0) (pe_ix ix_tup (pe_tup (pa_cons (pe_glob (v := .ref f0) rfl m0 rfl) (pa_cons (pe_glob (v := .ref f1) rfl m1 rfl) (pa_cons (pe_glob (v := .ref f2) rfl m2 rfl) (pa_cons (pe_glob (v := .ref f3) rfl m3 rfl) pa_nil))))) (xv 0 rfl (Or.inl rfl)) (fun _ _ => rfl)) Fg hr kg bg (fun _ => passAt0) (ac (xv 1 rfl (Or.inl rfl)) (ac (xv 2 rfl (Or.inl rfl)) an)))))), ?_⟩
      exact t_door e rs0 e0 e1 e2 hn fun us G1 H1 g1 r1 => ⟨G1, [a, b], d, g1.i, r1, hop, fun v G2 H2 g2 r2 => k v G2 H2 (g1.trans g2) r2⟩
    have thr : ∀ {g : Addr} {gd : FuncData} {gs : List Str} {R : List D → Bool}, FnOk P w K mg base (L2.CX P w) 11 g gd gs (spX K C R) → PySem.W.keepIn K (.ref g) = true → Binds K gd gs [] → ([V.ref f0, .ref f1, .ref f2, .ref f3])[n]? = some (.ref g) → R [a, b] = true → canNotD = d →
        ∃ t, PSs (cxOf CX0 P w K mg base N_heard "_law_heard" (defScope (topS 78)) f cdv A outer s H E).nox (defBody (topS 78)) t ∧ t { nx := fun _ H' => Q .non H', rt := Q } (L2.start N_heard vs) H := by
      intro g gd gs R Fg kg bg hn hR hd
      refine ⟨_, pss_one (ps_try_as (i := 3) (Wout := fun _ _ _ _ => False) (tb := fun W => tRet (tCallF g (spX K C R) (WE W) (tOp (rIxT K) (tTup (tCons (tC (.ref f0)) (tCons (tC (.ref f1)) (tCons (tC (.ref f2)) (tCons (tC (.ref f3)) tNil))))) (tD K (vE 0))) (aD K (consA (vE 1) (consA (vE 2) nilA)))))
        (ts := fun a cls dd => fun De σ H => (cls = .ref C ∧ dd = none) ∧ tRet (tLst (tCons (tC (.str "can not")) (tCons (tCB (rIsE K C a) (tCons (tVar 3) (tCons (tC (.ty "ValueError")) tNil))) tNil))) De σ H)
        rfl rfl nd rfl rfl ⟨rfl, by decide, .inl T.g⟩ takes0
        (fun W pn xe tk _ => pss_one (ps_ret (pe_callF (sp := spX K C R) (E := WE W) (pe_ix ix_tup (pe_tup (pa_cons (pe_glob (v := .ref f0) rfl m0 rfl) (pa_cons (pe_glob (v := .ref f1) rfl m1 rfl) (pa_cons (pe_glob (v := .ref f2) rfl m2 rfl) (pa_cons (pe_glob (v := .ref f3) rfl m3 rfl) pa_nil))))) (xv 0 rfl (Or.inl rfl)) (fun _ _ => rfl)) Fg hr kg bg (fun σ => passAt tk σ) (ac (xv 1 rfl (Or.inl rfl)) (ac (xv 2 rfl (Or.inl rfl)) an)))))
        (fun a oe cls dd pn hz hf => pss_pre fun hp => by
          obtain ⟨rfl, rfl⟩ := hp
          exact pss_one (ps_ret (pe_lst (pa_cons pe_str (pa_cons (pe_callB (call_isE T.c hz hf) rfl B.isinstance (by decide +kernel) (pa_cons (pe_var (i := 3) rfl (Or.inl rfl)) (pa_cons (pe_bltn (v := .ty "ValueError") (u := .type "ValueError") rfl B.ValueError_ (by decide +kernel) rfl) pa_nil))) pa_nil)))))), ?_⟩
      refine t_door e rs0 e0 e1 e2 hn fun us G1 H1 g1 r1 => ⟨G1, [a, b], g1.i, r1, rfl, hR, fun G2 H2 g2 => ⟨true, T.e, fun _ ad had => ⟨⟨rfl, rfl⟩, ?_⟩, fun q => nomatch q⟩⟩
      have hl : 3 < (L2.start N_heard vs).length := by rw [rs0.len]; show 3 < 4; decide
      refine ⟨.ref ad, List.getElem?_set_self hl, .ty "ValueError", .type "ValueError", true, rfl, fun u hu => by cases hu; rfl, T.v, by show 2 ≤ sizeLine; decide, fun p hp => ?_⟩
      subst hd
      exact k _ _ _ ((g1.trans g2).trans (.new g2.i hp)) (.lst upd_same (.cons (.str _) (.cons (.bl true) .nil)))
    unfold F_heardN at ho
    split at ho
    · unfold heardR at ho
      split at ho
      · next hR => cases ho; exact thr X0 k0 xb0 rfl hR rfl
      · exact ret F0 k0 b0 rfl ho
    · unfold heardR at ho
      split at ho
      · next hR => cases ho; exact thr X1 k1 xb1 rfl hR rfl
      · exact ret F1 k1 b1 rfl ho
    · unfold heardR at ho
      split at ho
      · next hR => cases ho; exact thr X2 k2 xb2 rfl hR rfl
      · exact ret F2 k2 b2 rfl ho
    · unfold heardR at ho
      split at ho
      · next hR => cases ho; exact thr X3 k3 xb3 rfl hR rfl
      · exact ret F3 k3 b3 rfl ho
    · cases ho
  · cases ho
end
end Mv

/-! part G7 -/
set_option maxHeartbeats 4000000
namespace Mv
open PySem PySem.Spec L2
section
variable {P : Program} {w : World} {K : PySem.W.Frag} {mg : Str → Option Value} {base : Heap}

/-! ### _law_by_hand_right -/
def B_law_by_hand_right : Fo := (osqE (otE (.tup [4, 5]) (aE mkT (consA (aE F_law_home nilA) (consA (aE mkT (consA (aE mkT (consA (cE (.int 1)) (consA (cE (.int 0)) (consA (cE (.int 2)) nilA)))) (consA (aE mkT (consA (cE (.int 1)) (consA (cE (.int 3)) (consA (cE (.int 0)) nilA)))) (consA (aE mkT (consA (cE (.int 1)) (consA (o1 dNeg (cE (.int 3))) (consA (cE (.int 0)) nilA)))) (consA (aE mkT (consA (o1 dNeg (cE (.int 1))) (consA (cE (.int 1)) (consA (cE (.int 1)) nilA)))) nilA))))) nilA))))
  (osqE (otE (.tup [6, 7]) (aE mkT (consA (aE mkT (consA (aE mkT (consA (cE (.int 0)) (consA (cE (.int 1)) (consA (cE (.int 2)) nilA)))) (consA (aE mkT (consA (cE (.int 4)) (consA (cE (.int 0)) (consA (cE (.int 0)) nilA)))) (consA (aE mkT (consA (cE (.int 0)) (consA (cE (.int 0)) (consA (cE (.int 0)) nilA)))) (consA (aE mkT (consA (cE (.int 1)) (consA (cE (.int 1)) (consA (cE (.int 1)) nilA)))) nilA))))) (consA (aE mkT (consA (aE mkT (consA (cE (.int 0)) (consA (cE (.int 1)) (consA (cE (.int 2)) nilA)))) (consA (aE mkT (consA (cE (.int 2)) (consA (cE (.int 0)) (consA (cE (.int 0)) nilA)))) (consA (aE mkT (consA (cE (.int 0)) (consA (cE (.int 0)) (consA (cE (.int 0)) nilA)))) (consA (aE mkT (consA (cE (.int 1)) (consA (cE (.int 1)) (consA (cE (.int 1)) nilA)))) nilA))))) nilA))))
  (osqE (opE 0 (aE mkL (consA (aE F_fewest_turns (consA (vE 4) (consA (vE 5) nilA))) (consA (aE F_first_turns (consA (vE 4) (consA (vE 5) nilA))) (consA (aE F_fewest_turns (consA (vE 4) (consA (vE 6) nilA))) (consA (aE F_first_turns (consA (vE 4) (consA (vE 4) nilA))) nilA))))))
  (osqE (opE 1 (aE mkL (consA (cE (.int 3)) (consA (aE mkT (consA (aE mkT (consA (cE (.str "turn")) (consA (cE (.int 0)) (consA (o1 dNeg (cE (.int 1))) nilA)))) (consA (aE mkT (consA (cE (.str "turn")) (consA (cE (.int 1)) (consA (o1 dNeg (cE (.int 1))) nilA)))) nilA))) (consA (cE (.int 4)) (consA (aE mkT nilA) nilA))))))
  (osqE (opE 0 (o2 dAdd (vE 0) (aE mkL (consA (aE F_can_turn_to (consA (vE 4) (consA (vE 7) nilA))) (consA (aE (revD F_can_turn_to) (consA (aE F_law_lists (consA (vE 6) nilA)) (consA (aE F_law_lists (consA (vE 4) nilA)) nilA))) nilA)))))
  (osqE (opE 0 (o2 dAdd (vE 0) (aE mkL (consA (aE F_turn_plan (consA (vE 4) (consA (vE 4) nilA))) nilA))))
  (osqE (opE 1 (o2 dAdd (vE 1) (aE mkL (consA (cE (.bool false)) (consA (cE (.bool true)) (consA (aE mkT nilA) nilA))))))
  (osqE (opE 2 (aE mkL (consA (vE 7) (consA (aE mkT (consA (aE mkT (consA (cE (.int 0)) (consA (cE (.int 1)) (consA (cE (.int 2)) nilA)))) (consA (aE mkT (consA (cE (.int 1)) (consA (cE (.int 0)) (consA (cE (.int 0)) nilA)))) (consA (aE mkT (consA (cE (.int 0)) (consA (cE (.int 0)) (consA (cE (.int 0)) nilA)))) (consA (aE mkT (consA (cE (.int 1)) (consA (cE (.int 1)) (consA (cE (.int 1)) nilA)))) nilA))))) (consA (aE mkT (consA (aE mkT (consA (cE (.int 0)) (consA (cE (.int 2)) (consA (cE (.int 1)) nilA)))) (consA (aE mkT (consA (cE (.int 0)) (consA (cE (.int 0)) (consA (cE (.int 0)) nilA)))) (consA (aE mkT (consA (cE (.int 0)) (consA (cE (.int 0)) (consA (cE (.int 0)) nilA)))) (consA (aE mkT (consA (cE (.int 1)) (consA (cE (.int 1)) (consA (cE (.int 1)) nilA)))) nilA))))) nilA)))))
  (osqE (opE 2 (o2 dAdd (vE 2) (aE mkL (consA (aE mkT (consA (aE mkT (consA (cE (.int 0)) (consA (cE (.int 1)) (consA (cE (.int 2)) nilA)))) (consA (aE mkT (consA (cE (.int 0)) (consA (cE (.int 0)) (consA (cE (.int 1)) nilA)))) (consA (aE mkT (consA (cE (.int 0)) (consA (cE (.int 0)) (consA (cE (.int 0)) nilA)))) (consA (aE mkT (consA (cE (.int 1)) (consA (cE (.int 1)) (consA (cE (.int 1)) nilA)))) nilA))))) (consA (aE mkT (consA (aE mkT (consA (cE (.int 1)) (consA (cE (.int 0)) (consA (cE (.int 2)) nilA)))) (consA (aE mkT (consA (cE (.int 0)) (consA (cE (.int 0)) (consA (cE (.int 0)) nilA)))) (consA (aE mkT (consA (cE (.int 0)) (consA (cE (.int 0)) (consA (cE (.int 0)) nilA)))) (consA (aE mkT (consA (cE (.int 1)) (consA (cE (.int 1)) (consA (cE (.int 1)) nilA)))) nilA))))) nilA)))))
  (osqE (opE 2 (o2 dAdd (vE 2) (aE mkL (consA (o2 dAdd (slE (vE 4) none (some (cE (.int 3)))) (aE mkT (consA (aE mkT (consA (cE (.int 1)) (consA (cE (.int 1)) (consA (o1 dNeg (cE (.int 1))) nilA)))) nilA))) nilA))))
  (osqE (onewE 0 (catL (vE 0) (aE mkL (consA (compE (seqE (vE 2)) (.one 8) ([8]) yesB (aE F_law_heard (consA (cE (.int 3)) (consA (vE 4) (consA (vE 8) nilA))))) (consA (aE F_law_heard (consA (cE (.int 3)) (consA (vE 4) (consA (vE 6) nilA)))) (consA (aE F_law_heard (consA (cE (.int 0)) (consA (vE 4) (consA (vE 7) nilA)))) nilA))))))
  (osqE (opE 1 (o2 dAdd (vE 1) (aE mkL (consA (aE mkL (consA (cE (.str "odd")) (consA (cE (.str "half")) (consA (cE (.str "shape")) (consA (cE (.str "upright")) (consA (cE (.str "way")) (consA (cE (.str "fronts")) nilA))))))) (consA (aE mkL (consA (cE (.str "can not")) (consA (cE (.bool true)) nilA))) (consA (aE mkL (consA (cE (.str "can not")) (consA (cE (.bool true)) nilA))) nilA))))))
  (osqE (opE 3 (aE mkL (consA (aE mkT (consA (aE mkT (consA (cE (.str "turn")) (consA (cE (.int 1)) (consA (o1 dNeg (cE (.int 1))) nilA)))) (consA (aE mkT (consA (cE (.str "turn")) (consA (cE (.int 2)) (consA (cE (.int 1)) nilA)))) (consA (aE mkT (consA (cE (.str "turn")) (consA (cE (.int 0)) (consA (o1 dNeg (cE (.int 1))) nilA)))) nilA)))) (consA (o2 dMul (aE mkT (consA (aE mkT (consA (cE (.str "turn")) (consA (cE (.int 1)) (consA (o1 dNeg (cE (.int 1))) nilA)))) nilA)) (cE (.int 3))) (consA (aE mkL (consA (aE mkT (consA (cE (.str "turn")) (consA (cE (.int 1)) (consA (o1 dNeg (cE (.int 1))) nilA)))) nilA)) (consA (cE .none) (consA (aE mkT nilA) nilA)))))))
  (osqE (opE 3 (o2 dAdd (vE 3) (aE mkL (consA (cE (.int 7)) nilA))))
  (osqE (opE 3 (o2 dAdd (vE 3) (aE mkL (consA (aE mkT (consA (aE mkT (consA (cE (.str "turn")) (consA (cE (.int 1)) (consA (o1 dNeg (cE (.int 1))) nilA)))) (consA (aE mkT (consA (cE (.str "turn")) (consA (cE (.int 2)) (consA (cE (.int 1)) nilA)))) (consA (aE mkT (consA (cE (.str "turn")) (consA (cE (.int 0)) (consA (cE (.int 1)) nilA)))) nilA)))) (consA (o2 dMul (aE mkT (consA (aE mkT (consA (cE (.str "tip")) (consA (cE (.int 0)) nilA))) nilA)) (cE (.int 3))) nilA)))))
  (osqE (opE 3 (o2 dAdd (vE 3) (aE mkL (consA (aE mkT (consA (aE mkT (consA (cE (.str "turn")) (consA (cE (.int 1)) (consA (o1 dNeg (cE (.int 1))) nilA)))) (consA (aE mkT (consA (cE (.str "turn")) (consA (cE (.int 2)) (consA (cE (.int 1)) nilA)))) (consA (aE mkL (consA (cE (.str "turn")) (consA (cE (.int 0)) (consA (o1 dNeg (cE (.int 1))) nilA)))) nilA)))) nilA))))
  (osqE (opE 3 (o2 dAdd (vE 3) (aE mkL (consA (aE mkT (consA (aE mkT (consA (cE (.str "turn")) (consA (cE (.int 0)) (consA (o1 dNeg (cE (.int 1))) nilA)))) (consA (aE mkT (consA (cE (.str "turn")) (consA (cE (.int 2)) (consA (cE (.bool true)) nilA)))) (consA (aE mkT (consA (cE (.str "turn")) (consA (cE (.int 1)) (consA (o1 dNeg (cE (.int 1))) nilA)))) nilA)))) nilA))))
  (osqE (opE 3 (o2 dAdd (vE 3) (aE mkL (consA (aE mkT (consA (aE mkT (consA (cE (.str "turn")) (consA (cE (.bool false)) (consA (o1 dNeg (cE (.int 1))) nilA)))) (consA (aE mkT (consA (cE (.str "turn")) (consA (cE (.int 2)) (consA (cE (.int 1)) nilA)))) (consA (aE mkT (consA (cE (.str "turn")) (consA (cE (.int 1)) (consA (o1 dNeg (cE (.int 1))) nilA)))) nilA)))) nilA))))
  (osqE (oappE 0 (compE (seqE (vE 3)) (.one 8) ([8]) yesB (aE F_is_turn_plan (consA (vE 4) (consA (vE 5) (consA (vE 8) nilA))))))
  (osqE (oappE 0 (aE (revD F_is_turn_plan) (consA (aE mkT nilA) (consA (aE F_law_lists (consA (vE 4) nilA)) (consA (vE 4) nilA)))))
  (osqE (oappE 0 (aE (revD F_fewest_turns) (consA (aE F_law_lists (consA (vE 5) nilA)) (consA (aE F_law_lists (consA (vE 4) nilA)) nilA))))
  (ortE (aE F_law_same (consA (vE 0) (consA (o2 dAdd (vE 1) (aE mkL (consA (o2 dAdd (aE mkL (consA (cE (.bool true)) nilA)) (o2 dMul (aE mkL (consA (cE (.bool false)) nilA)) (cE (.int 10)))) (consA (cE (.bool true)) (consA (cE (.int 3)) nilA))))) nilA)))))))))))))))))))))))))
def F_law_by_hand_right : List D → Option D := runO 0 9 B_law_by_hand_right
theorem sc_law_by_hand_right : FnScope ["_law_got", "_law_due", "_law_bad", "_law_things", "_law_hearth", "_law_step_here", "_law_along", "_law_odd", "_law_own"] [] (defScope (topS 79)) := ⟨rfl, rfl, rfl, by decide +kernel, rfl, by decide +kernel, by decide +kernel⟩
theorem cal_law_by_hand_right (B : Bt mg) (F : Df K mg "_law_by_hand_right" (topS 79) []) (c__law_home : Cal P w K mg base 1 "_law_home" F_law_home) (c_fewest_turns : Cal P w K mg base 11 "fewest_turns" F_fewest_turns) (c_first_turns : Cal P w K mg base 11 "first_turns" F_first_turns) (c_can_turn_to : Cal P w K mg base 10 "can_turn_to" F_can_turn_to) (c__law_lists : Cal P w K mg base 7 "_law_lists" F_law_lists) (c_turn_plan : Cal P w K mg base 11 "turn_plan" F_turn_plan) (c__law_heard : Cal P w K mg base 12 "_law_heard" F_law_heard) (c_is_turn_plan : Cal P w K mg base 10 "is_turn_plan" F_is_turn_plan) (c__law_same : Cal P w K mg base 7 "_law_same" F_law_same) (ck_can_turn_to : CalK P w K mg base 10 "can_turn_to" ["stand", "goal"] F_can_turn_to) (ck_is_turn_plan : CalK P w K mg base 10 "is_turn_plan" ["stand", "goal", "thing"] F_is_turn_plan) (ck_fewest_turns : CalK P w K mg base 11 "fewest_turns" ["stand", "goal"] F_fewest_turns)  : Cal P w K mg base 13 "_law_by_hand_right" F_law_by_hand_right :=
  cal_O (N := ["_law_got", "_law_due", "_law_bad", "_law_things", "_law_hearth", "_law_step_here", "_law_along", "_law_odd", "_law_own"]) F sc_law_by_hand_right fun f cdv A outer s H E hr => have nd := (sc_law_by_hand_right).nd
    (oc (ot (xtup (ac (xcall0 c__law_home hr (by decide) rfl) (ac (xtup (ac (xtup (ac xc_int (ac xc_int (ac xc_int an)))) (ac (xtup (ac xc_int (ac xc_int (ac xc_int an)))) (ac (xtup (ac xc_int (ac (xo1 un_dNeg xc_int) (ac xc_int an)))) (ac (xtup (ac (xo1 un_dNeg xc_int) (ac xc_int (ac xc_int an)))) an))))) an))) (gt rfl (gn1 (pg_name nd rfl (Or.inr rfl)) (gn1 (pg_name nd rfl (Or.inr rfl)) gn0))))
    (oc (ot (xtup (ac (xtup (ac (xtup (ac xc_int (ac xc_int (ac xc_int an)))) (ac (xtup (ac xc_int (ac xc_int (ac xc_int an)))) (ac (xtup (ac xc_int (ac xc_int (ac xc_int an)))) (ac (xtup (ac xc_int (ac xc_int (ac xc_int an)))) an))))) (ac (xtup (ac (xtup (ac xc_int (ac xc_int (ac xc_int an)))) (ac (xtup (ac xc_int (ac xc_int (ac xc_int an)))) (ac (xtup (ac xc_int (ac xc_int (ac xc_int an)))) (ac (xtup (ac xc_int (ac xc_int (ac xc_int an)))) an))))) an))) (gt rfl (gn1 (pg_name nd rfl (Or.inl rfl)) (gn1 (pg_name nd rfl (Or.inl rfl)) gn0))))
    (oc (op (i := 0) nd rfl (Or.inl rfl) (xlst (ac (xcall c_fewest_turns hr (by decide) rfl (ac (xv 4 rfl (Or.inr (Or.inl rfl))) (ac (xv 5 rfl (Or.inr (Or.inl rfl))) an))) (ac (xcall c_first_turns hr (by decide) rfl (ac (xv 4 rfl (Or.inr (Or.inl rfl))) (ac (xv 5 rfl (Or.inr (Or.inl rfl))) an))) (ac (xcall c_fewest_turns hr (by decide) rfl (ac (xv 4 rfl (Or.inr (Or.inl rfl))) (ac (xv 6 rfl (Or.inl rfl)) an))) (ac (xcall c_first_turns hr (by decide) rfl (ac (xv 4 rfl (Or.inr (Or.inl rfl))) (ac (xv 4 rfl (Or.inr (Or.inl rfl))) an))) an))))))
    (oc (op (i := 1) nd rfl (Or.inl rfl) (xlst (ac xc_int (ac (xtup (ac (xtup (ac xc_str (ac xc_int (ac (xo1 un_dNeg xc_int) an)))) (ac (xtup (ac xc_str (ac xc_int (ac (xo1 un_dNeg xc_int) an)))) an))) (ac xc_int (ac (xtup an) an))))))
    (oc (op (i := 0) nd rfl (Or.inl rfl) (xo2 op_dAdd (xv 0 rfl (Or.inl rfl)) (xlst (ac (xcall c_can_turn_to hr (by decide) rfl (ac (xv 4 rfl (Or.inr (Or.inl rfl))) (ac (xv 7 rfl (Or.inl rfl)) an))) (ac (xcallK ck_can_turn_to hr (by decide) rfl (kc (xcall c__law_lists hr (by decide) rfl (ac (xv 6 rfl (Or.inl rfl)) an)) (kc (xcall c__law_lists hr (by decide) rfl (ac (xv 4 rfl (Or.inr (Or.inl rfl))) an)) kn))) an)))))
    (oc (op (i := 0) nd rfl (Or.inl rfl) (xo2 op_dAdd (xv 0 rfl (Or.inl rfl)) (xlst (ac (xcall c_turn_plan hr (by decide) rfl (ac (xv 4 rfl (Or.inr (Or.inl rfl))) (ac (xv 4 rfl (Or.inr (Or.inl rfl))) an))) an))))
    (oc (op (i := 1) nd rfl (Or.inl rfl) (xo2 op_dAdd (xv 1 rfl (Or.inl rfl)) (xlst (ac xc_bl (ac xc_bl (ac (xtup an) an))))))
    (oc (op (i := 2) nd rfl (Or.inl rfl) (xlst (ac (xv 7 rfl (Or.inl rfl)) (ac (xtup (ac (xtup (ac xc_int (ac xc_int (ac xc_int an)))) (ac (xtup (ac xc_int (ac xc_int (ac xc_int an)))) (ac (xtup (ac xc_int (ac xc_int (ac xc_int an)))) (ac (xtup (ac xc_int (ac xc_int (ac xc_int an)))) an))))) (ac (xtup (ac (xtup (ac xc_int (ac xc_int (ac xc_int an)))) (ac (xtup (ac xc_int (ac xc_int (ac xc_int an)))) (ac (xtup (ac xc_int (ac xc_int (ac xc_int an)))) (ac (xtup (ac xc_int (ac xc_int (ac xc_int an)))) an))))) an)))))
    (oc (op (i := 2) nd rfl (Or.inl rfl) (xo2 op_dAdd (xv 2 rfl (Or.inl rfl)) (xlst (ac (xtup (ac (xtup (ac xc_int (ac xc_int (ac xc_int an)))) (ac (xtup (ac xc_int (ac xc_int (ac xc_int an)))) (ac (xtup (ac xc_int (ac xc_int (ac xc_int an)))) (ac (xtup (ac xc_int (ac xc_int (ac xc_int an)))) an))))) (ac (xtup (ac (xtup (ac xc_int (ac xc_int (ac xc_int an)))) (ac (xtup (ac xc_int (ac xc_int (ac xc_int an)))) (ac (xtup (ac xc_int (ac xc_int (ac xc_int an)))) (ac (xtup (ac xc_int (ac xc_int (ac xc_int an)))) an))))) an)))))
    (oc (op (i := 2) nd rfl (Or.inl rfl) (xo2 op_dAdd (xv 2 rfl (Or.inl rfl)) (xlst (ac (xo2 op_dAdd (xslice (xv 4 rfl (Or.inr (Or.inl rfl))) pno (psm xc_int)) (xtup (ac (xtup (ac xc_int (ac xc_int (ac (xo1 un_dNeg xc_int) an)))) an))) an))))
    (oc (onew (i := 0) nd rfl (Or.inl rfl) (ncat (xv 0 rfl (Or.inl rfl)) (xlst (ac (xlc (.one 8) [("_law_own", 8)] (by decide) rfl nd (iseq (xv 2 rfl (Or.inl rfl))) (blkOk_by (N := ["_law_got", "_law_due", "_law_bad", "_law_things", "_law_hearth", "_law_step_here", "_law_along", "_law_odd", "_law_own"]) (sc := defScope (topS 79)) (by decide +kernel)) (fun _ _ _ _ _ => (g1 nd rfl (Or.inl rfl))) (fun _ _ _ _ _ => ts0) (fun _ _ _ _ _ => (xcall c__law_heard hr (by decide) rfl (ac xc_int (ac (xv 4 rfl (Or.inr (Or.inl rfl))) (ac (xv 8 rfl (Or.inl rfl)) an)))))) (ac (xcall c__law_heard hr (by decide) rfl (ac xc_int (ac (xv 4 rfl (Or.inr (Or.inl rfl))) (ac (xv 6 rfl (Or.inl rfl)) an)))) (ac (xcall c__law_heard hr (by decide) rfl (ac xc_int (ac (xv 4 rfl (Or.inr (Or.inl rfl))) (ac (xv 7 rfl (Or.inl rfl)) an)))) an))))))
    (oc (op (i := 1) nd rfl (Or.inl rfl) (xo2 op_dAdd (xv 1 rfl (Or.inl rfl)) (xlst (ac (xlst (ac xc_str (ac xc_str (ac xc_str (ac xc_str (ac xc_str (ac xc_str an))))))) (ac (xlst (ac xc_str (ac xc_bl an))) (ac (xlst (ac xc_str (ac xc_bl an))) an))))))
    (oc (op (i := 3) nd rfl (Or.inl rfl) (xlst (ac (xtup (ac (xtup (ac xc_str (ac xc_int (ac (xo1 un_dNeg xc_int) an)))) (ac (xtup (ac xc_str (ac xc_int (ac xc_int an)))) (ac (xtup (ac xc_str (ac xc_int (ac (xo1 un_dNeg xc_int) an)))) an)))) (ac (xo2 op_dMul (xtup (ac (xtup (ac xc_str (ac xc_int (ac (xo1 un_dNeg xc_int) an)))) an)) xc_int) (ac (xlst (ac (xtup (ac xc_str (ac xc_int (ac (xo1 un_dNeg xc_int) an)))) an)) (ac xc_non (ac (xtup an) an)))))))
    (oc (op (i := 3) nd rfl (Or.inl rfl) (xo2 op_dAdd (xv 3 rfl (Or.inl rfl)) (xlst (ac xc_int an))))
    (oc (op (i := 3) nd rfl (Or.inl rfl) (xo2 op_dAdd (xv 3 rfl (Or.inl rfl)) (xlst (ac (xtup (ac (xtup (ac xc_str (ac xc_int (ac (xo1 un_dNeg xc_int) an)))) (ac (xtup (ac xc_str (ac xc_int (ac xc_int an)))) (ac (xtup (ac xc_str (ac xc_int (ac xc_int an)))) an)))) (ac (xo2 op_dMul (xtup (ac (xtup (ac xc_str (ac xc_int an))) an)) xc_int) an)))))
    (oc (op (i := 3) nd rfl (Or.inl rfl) (xo2 op_dAdd (xv 3 rfl (Or.inl rfl)) (xlst (ac (xtup (ac (xtup (ac xc_str (ac xc_int (ac (xo1 un_dNeg xc_int) an)))) (ac (xtup (ac xc_str (ac xc_int (ac xc_int an)))) (ac (xlst (ac xc_str (ac xc_int (ac (xo1 un_dNeg xc_int) an)))) an)))) an))))
    (oc (op (i := 3) nd rfl (Or.inl rfl) (xo2 op_dAdd (xv 3 rfl (Or.inl rfl)) (xlst (ac (xtup (ac (xtup (ac xc_str (ac xc_int (ac (xo1 un_dNeg xc_int) an)))) (ac (xtup (ac xc_str (ac xc_int (ac xc_bl an)))) (ac (xtup (ac xc_str (ac xc_int (ac (xo1 un_dNeg xc_int) an)))) an)))) an))))
    (oc (op (i := 3) nd rfl (Or.inl rfl) (xo2 op_dAdd (xv 3 rfl (Or.inl rfl)) (xlst (ac (xtup (ac (xtup (ac xc_str (ac xc_bl (ac (xo1 un_dNeg xc_int) an)))) (ac (xtup (ac xc_str (ac xc_int (ac xc_int an)))) (ac (xtup (ac xc_str (ac xc_int (ac (xo1 un_dNeg xc_int) an)))) an)))) an))))
    (oc (oapp (i := 0) rfl (Or.inl rfl) (xlc (.one 8) [("_law_own", 8)] (by decide) rfl nd (iseq (xv 3 rfl (Or.inl rfl))) (blkOk_by (N := ["_law_got", "_law_due", "_law_bad", "_law_things", "_law_hearth", "_law_step_here", "_law_along", "_law_odd", "_law_own"]) (sc := defScope (topS 79)) (by decide +kernel)) (fun _ _ _ _ _ => (g1 nd rfl (Or.inl rfl))) (fun _ _ _ _ _ => ts0) (fun _ _ _ _ _ => (xcall c_is_turn_plan hr (by decide) rfl (ac (xv 4 rfl (Or.inr (Or.inl rfl))) (ac (xv 5 rfl (Or.inr (Or.inl rfl))) (ac (xv 8 rfl (Or.inl rfl)) an)))))) (hb := pe_bm PySem.F.plainAttrs_list PySem.F.slot_list_append PySem.F.type_list_append mt_append (pv 0) (pa_cons (xlc (.one 8) [("_law_own", 8)] (by decide) rfl nd (iseq (xv 3 rfl (Or.inl rfl))) (blkOk_by (N := ["_law_got", "_law_due", "_law_bad", "_law_things", "_law_hearth", "_law_step_here", "_law_along", "_law_odd", "_law_own"]) (sc := defScope (topS 79)) (by decide +kernel)) (fun _ _ _ _ _ => (g1 nd rfl (Or.inl rfl))) (fun _ _ _ _ _ => ts0) (fun _ _ _ _ _ => (xcall c_is_turn_plan hr (by decide) rfl (ac (xv 4 rfl (Or.inr (Or.inl rfl))) (ac (xv 5 rfl (Or.inr (Or.inl rfl))) (ac (xv 8 rfl (Or.inl rfl)) an)))))) pa_nil)))
    (oc (oapp (i := 0) rfl (Or.inl rfl) (xcallK ck_is_turn_plan hr (by decide) rfl (kc (xtup an) (kc (xcall c__law_lists hr (by decide) rfl (ac (xv 4 rfl (Or.inr (Or.inl rfl))) an)) (kc (xv 4 rfl (Or.inr (Or.inl rfl))) kn)))) (hb := pe_bm PySem.F.plainAttrs_list PySem.F.slot_list_append PySem.F.type_list_append mt_append (pv 0) (pa_cons (xcallK ck_is_turn_plan hr (by decide) rfl (kc (xtup an) (kc (xcall c__law_lists hr (by decide) rfl (ac (xv 4 rfl (Or.inr (Or.inl rfl))) an)) (kc (xv 4 rfl (Or.inr (Or.inl rfl))) kn)))) pa_nil)))
    (oc (oapp (i := 0) rfl (Or.inl rfl) (xcallK ck_fewest_turns hr (by decide) rfl (kc (xcall c__law_lists hr (by decide) rfl (ac (xv 5 rfl (Or.inr (Or.inl rfl))) an)) (kc (xcall c__law_lists hr (by decide) rfl (ac (xv 4 rfl (Or.inr (Or.inl rfl))) an)) kn))) (hb := pe_bm PySem.F.plainAttrs_list PySem.F.slot_list_append PySem.F.type_list_append mt_append (pv 0) (pa_cons (xcallK ck_fewest_turns hr (by decide) rfl (kc (xcall c__law_lists hr (by decide) rfl (ac (xv 5 rfl (Or.inr (Or.inl rfl))) an)) (kc (xcall c__law_lists hr (by decide) rfl (ac (xv 4 rfl (Or.inr (Or.inl rfl))) an)) kn))) pa_nil)))
    (oz1 (oret (xcall c__law_same hr (by decide) rfl (ac (xv 0 rfl (Or.inl rfl)) (ac (xo2 op_dAdd (xv 1 rfl (Or.inl rfl)) (xlst (ac (xo2 op_dAdd (xlst (ac xc_bl an)) (xo2 op_dMul (xlst (ac xc_bl an)) xc_int)) (ac xc_bl (ac xc_int an))))) an))))))))))))))))))))))))))


/-! ### _law_plan_right -/
def B_law_plan_right : Ev → Option Out := (sqE (asE 3 (aE F_law_heard (consA (cE (.int 2)) (consA (aE F_law_lists (consA (vE 0) nilA)) (consA (vE 1) nilA)))))
  (sqE (isE (orB (notB (toB (o1 (isiD .tuple) (vE 3)))) (orB (toB (o2 dNe (aE lenD (consA (vE 3) nilA)) (vE 2))) (toB (o2 dNe (compE (seqE (vE 3)) (.one 4) ([4]) (toB (o2 dNotIn (vE 4) (aE F_law_turns nilA))) (vE 4)) (aE mkL nilA))))) (rtE (cE (.bool false))) ndE)
  (rtE (andV (o2 dEq (aE F_law_behind (consA (vE 0) (consA (vE 3) nilA))) (vE 1)) (aE F_is_turn_plan (consA (vE 0) (consA (aE F_law_lists (consA (vE 1) nilA)) (consA (vE 3) nilA))))))))
def F_law_plan_right : List D → Option D := runF 3 5 B_law_plan_right
theorem sc_law_plan_right : FnScope ["_law_one", "_law_two", "_law_few_so", "_law_told", "_law_own"] ["_law_one", "_law_two", "_law_few_so"] (defScope (topS 80)) := ⟨rfl, rfl, rfl, by decide +kernel, rfl, by decide +kernel, by decide +kernel⟩
theorem cal_law_plan_right (B : Bt mg) (F : Df K mg "_law_plan_right" (topS 80) ["_law_one", "_law_two", "_law_few_so"]) (c__law_lists : Cal P w K mg base 7 "_law_lists" F_law_lists) (c__law_heard : Cal P w K mg base 12 "_law_heard" F_law_heard) (c__law_turns : Cal P w K mg base 1 "_law_turns" F_law_turns) (c__law_behind : Cal P w K mg base 4 "_law_behind" F_law_behind) (c_is_turn_plan : Cal P w K mg base 10 "is_turn_plan" F_is_turn_plan)   : Cal P w K mg base 13 "_law_plan_right" F_law_plan_right :=
  cal_D (N := ["_law_one", "_law_two", "_law_few_so", "_law_told", "_law_own"]) F sc_law_plan_right fun f cdv A outer s H E hr => have nd := (sc_law_plan_right).nd
    (zc (zset (i := 3) nd rfl (Or.inl rfl) (xcall c__law_heard hr (by decide) rfl (ac xc_int (ac (xcall c__law_lists hr (by decide) rfl (ac (xv 0 rfl (Or.inl rfl)) an)) (ac (xv 1 rfl (Or.inl rfl)) an)))))
    (zc (zif (PW.pt (tor (tnot (tval (xisi .tuple nofun (by decide +kernel) B.isinstance B.tuple_ rfl rfl (xv 3 rfl (Or.inl rfl))))) (tor (tcmp (op_dNe hr.units) (xcallB cl_len (by decide +kernel) B.len_ rfl (ac (xv 3 rfl (Or.inl rfl)) an)) (xv 2 rfl (Or.inl rfl)) (nomark _)) (tor1 (tcmp (op_dNe hr.units) (xlc (.one 4) [("_law_own", 4)] (by decide) rfl nd (iseq (xv 3 rfl (Or.inl rfl))) (blkOk_by (N := ["_law_one", "_law_two", "_law_few_so", "_law_told", "_law_own"]) (sc := defScope (topS 80)) (by decide +kernel)) (fun _ _ _ _ _ => (g1 nd rfl (Or.inl rfl))) (fun _ _ _ _ _ => (ts1 (tcmp (op_dNotIn (u65 hr)) (xv 4 rfl (Or.inl rfl)) (xcall0 c__law_turns hr (by decide) rfl) rfl))) (fun _ _ _ _ _ => (xv 4 rfl (Or.inl rfl)))) (xlst an) (nomark _)))))) (z1 (zret xc_bl)) zn)
    (z1 (zret (xand (xcmp (op_dEq hr.units) (xcall c__law_behind hr (by decide) rfl (ac (xv 0 rfl (Or.inl rfl)) (ac (xv 3 rfl (Or.inl rfl)) an))) (xv 1 rfl (Or.inl rfl)) (nomark _)) (xone (xcall c_is_turn_plan hr (by decide) rfl (ac (xv 0 rfl (Or.inl rfl)) (ac (xcall c__law_lists hr (by decide) rfl (ac (xv 1 rfl (Or.inl rfl)) an)) (ac (xv 3 rfl (Or.inl rfl)) an))))))))))

end
end Mv

/-! part V1 -/
set_option maxHeartbeats 4000000
namespace Mv
open PySem PySem.Spec L2
def isTrueD : Option D → Bool
  | some (.bool true) => true
  | _ => false
theorem isTrueD_some {o : Option D} (h : isTrueD o = true) : o = some (.bool true) := by
  unfold isTrueD at h
  split at h
  · rfl
  · cases h
theorem by_hand_true : F_law_by_hand_right [] = some (.bool true) := isTrueD_some (by decide +kernel)
end Mv

/-! part T1 -/
set_option maxHeartbeats 4000000
namespace Mv
open PySem PySem.Spec L2

/-! ### stands, typed -/
structure V3 where
  a : Int
  b : Int
  c : Int
  deriving DecidableEq
inductive Po where
  | o012 | o210 | o201 | o102 | o120 | o021
  deriving DecidableEq
def Po.i : Po → Nat
  | .o012 => 0 | .o210 => 2 | .o201 => 2 | .o102 => 1 | .o120 => 1 | .o021 => 0
def Po.j : Po → Nat
  | .o012 => 1 | .o210 => 1 | .o201 => 0 | .o102 => 0 | .o120 => 2 | .o021 => 2
def Po.k : Po → Nat
  | .o012 => 2 | .o210 => 0 | .o201 => 1 | .o102 => 2 | .o120 => 0 | .o021 => 1
/-- j, i, k -/
def Po.sw : Po → Po
  | .o012 => .o102 | .o210 => .o120 | .o201 => .o021 | .o102 => .o012 | .o120 => .o210 | .o021 => .o201
/-- k, j, i -/
def Po.tw : Po → Po
  | .o012 => .o210 | .o210 => .o012 | .o201 => .o102 | .o102 => .o201 | .o120 => .o021 | .o021 => .o120
/-- i, k, j -/
def Po.uw : Po → Po
  | .o012 => .o021 | .o210 => .o201 | .o201 => .o210 | .o102 => .o120 | .o120 => .o102 | .o021 => .o012
def V3.get (v : V3) : Nat → Int
  | 0 => v.a | 1 => v.b | _ => v.c
def V3.upd (v : V3) (n : Nat) (f : Int → Int) : V3 := match n with
  | 0 => ⟨f v.a, v.b, v.c⟩ | 1 => ⟨v.a, f v.b, v.c⟩ | _ => ⟨v.a, v.b, f v.c⟩
structure Sd where
  p : Po
  x : V3
  y : V3
  f : V3
  deriving DecidableEq
def vD (v : V3) : D := .tuple [.int v.a, .int v.b, .int v.c]
def pD : Po → D
  | .o012 => i3 0 1 2 | .o210 => i3 2 1 0 | .o201 => i3 2 0 1 | .o102 => i3 1 0 2 | .o120 => i3 1 2 0 | .o021 => i3 0 2 1
def sD' (s : Sd) : D := .tuple [pD s.p, vD s.x, vD s.y, vD s.f]
def est (m : Nat) : Int := if m / 2 = 1 ∨ m / 2 = 2 then 1 else -1
def nrt (m : Nat) : Int := if m / 2 = 2 ∨ m / 2 = 3 then 1 else -1
/-- a turn; m is 2 * corner + (hand is 1) -/
def tn (s : Sd) (m : Nat) : Sd :=
  ⟨s.p.sw, (s.x.upd s.p.i (· + est m)).upd s.p.j (· + nrt m * sgn m), (s.y.upd s.p.j (· + nrt m)).upd s.p.i (· + -est m * sgn m), s.f.upd (if sgn m = 1 then s.p.j else s.p.i) (- ·)⟩
def tipM (w : Nat) : D := .tuple [.str "tip", .int (w : Nat)]
def tby (w : Nat) : Int := if w < 2 then 1 else -1
def tp (s : Sd) (w : Nat) : Sd :=
  if w % 2 = 0 then ⟨s.p.tw, (s.x.upd s.p.i (· + tby w)).upd s.p.k (· + tby w), s.y, s.f.upd (if w = 0 then s.p.i else s.p.k) (- ·)⟩
  else ⟨s.p.uw, s.x, (s.y.upd s.p.j (· + tby w)).upd s.p.k (· + tby w), s.f.upd (if w = 1 then s.p.j else s.p.k) (- ·)⟩
theorem step_turn (s : Sd) : ∀ m, m < 8 → F_law_step [sD' s, mvD m] = some (sD' (tn s m)) := by
  obtain ⟨p, ⟨x0, x1, x2⟩, ⟨y0, y1, y2⟩, ⟨f0, f1, f2⟩⟩ := s
  intro m hm
  match m, hm with
  | 0, _ => cases p <;> kernel_rfl
  | 1, _ => cases p <;> kernel_rfl
  | 2, _ => cases p <;> kernel_rfl
  | 3, _ => cases p <;> kernel_rfl
  | 4, _ => cases p <;> kernel_rfl
  | 5, _ => cases p <;> kernel_rfl
  | 6, _ => cases p <;> kernel_rfl
  | 7, _ => cases p <;> kernel_rfl
theorem step_tip (s : Sd) : ∀ w, w < 4 → F_law_step [sD' s, tipM w] = some (sD' (tp s w)) := by
  obtain ⟨p, ⟨x0, x1, x2⟩, ⟨y0, y1, y2⟩, ⟨f0, f1, f2⟩⟩ := s
  intro m hm
  match m, hm with
  | 0, _ => cases p <;> kernel_rfl
  | 1, _ => cases p <;> kernel_rfl
  | 2, _ => cases p <;> kernel_rfl
  | 3, _ => cases p <;> kernel_rfl
end Mv

/-! part T2 -/
set_option maxHeartbeats 4000000
namespace Mv
open PySem PySem.Spec L2

/-! ### mirrors by steps -/
section
variable {f g u : Ev → Option Out} {p q : Ev → Option Bool} {ρ ρ' : Ev} {d x y : D} {e e2 : Ev → Option D} {b c : Bool}
theorem sq_nx (h : f ρ = some (.nx ρ')) : sqE f g ρ = g ρ' := by unfold sqE; rw [h]
theorem sq_if (b : Bool) (h : p ρ = some b) (hu : u ρ = some (.rt d)) : sqE (isE p u ndE) g ρ = (bif b then some (.rt d) else g ρ) := by
  unfold sqE isE
  rw [h]
  cases b with
  | true => rw [hu]; rfl
  | false => rfl
theorem as_nx {i : Nat} (h : e ρ = some d) : sqE (asE i e) g ρ = g (stE ρ i (some d)) := sq_nx (by unfold asE; rw [h])
theorem or_ev (b c : Bool) (h : p ρ = some b) (h2 : q ρ = some c) : orB p q ρ = some (b || c) := by
  unfold orB
  rw [h]
  cases b with
  | true => rfl
  | false => exact h2
theorem andV_ev (b c : Bool) (h : e ρ = some (.bool b)) (h2 : e2 ρ = some (.bool c)) : andV e e2 ρ = some (.bool (b && c)) := by
  unfold andV
  rw [h]
  cases b with
  | true => exact h2
  | false => rfl
theorem toB_ev (h : e ρ = some (.bool b)) : toB e ρ = some b := by unfold toB; rw [h]
theorem if_ev (b : Bool) (h : p ρ = some b) (h1 : e ρ = some x) (h2 : e2 ρ = some y) : ifE p e e2 ρ = some (bif b then x else y) := by
  unfold ifE
  rw [h]
  cases b with
  | true => exact h1
  | false => exact h2
theorem rt_ev (h : e ρ = some d) : rtE e ρ = some (.rt d) := by unfold rtE; rw [h]
end
theorem end_bif {b : Bool} {d : D} {o : Option Out} : endD (bif b then some (.rt d) else o) = (bif b then some d else endD o) := by cases b <;> rfl
def tw0 (s t : Sd) (n : Nat) : Int := (t.x.get n - s.x.get n) + (t.y.get n - s.y.get n)
def tw1 (s t : Sd) (n : Nat) : Int := (t.x.get n - s.x.get n) - (t.y.get n - s.y.get n)
theorem run2 {N : Nat} {fb : Ev → Option Out} {a b : D} : runF 2 N fb [a, b] = endD (fb (padE [a, b] N)) := rfl
def kN (n : Nat) : D := .int (n : Nat)
def uprB (s t : Sd) : Bool := !(decide (tw0 s t s.p.k = 0) && (decide (tw1 s t s.p.k = 0) && true))
def halfB (s t : Sd) : Bool := decide (tw0 s t s.p.i % 2 = 1) || decide (tw0 s t s.p.j % 2 = 1)
def hsB (s t : Sd) : Str := bif !(decide ((t.p.k : Int) = (s.p.k : Int))) then "shape" else bif uprB s t then "upright" else bif halfB s t then "half" else ""
theorem end_nx {f g : Ev → Option Out} {ρ ρ' : Ev} {o : Option D} (h : f ρ = some (.nx ρ')) (h2 : endD (g ρ') = o) : endD (sqE f g ρ) = o := by rw [sq_nx h]; exact h2
theorem end_if {g u : Ev → Option Out} {p : Ev → Option Bool} {ρ : Ev} {d : D} {o : Option D} (b : Bool) (h : p ρ = some b) (hu : u ρ = some (.rt d)) (h2 : endD (g ρ) = o) : endD (sqE (isE p u ndE) g ρ) = (bif b then some d else o) := by
  rw [sq_if b h hu, end_bif, h2]
theorem end_rt {e : Ev → Option D} {ρ : Ev} {d : D} (h : e ρ = some d) : endD (rtE e ρ) = some d := by rw [rt_ev h]; rfl
def R5 (s t : Sd) : Ev := [some (sD' s), some (sD' t), some (kN s.p.i), some (kN s.p.j), some (kN s.p.k)]
theorem has_slants_ev (s t : Sd) : F_has_slants [sD' s, sD' t] = some (.str (hsB s t)) := by
  have e : F_has_slants [sD' s, sD' t] = (bif !(decide ((t.p.k : Int) = (s.p.k : Int))) then some (.str "shape") else bif uprB s t then some (.str "upright") else bif halfB s t then some (.str "half") else some (.str "")) := by
    unfold F_has_slants
    rw [run2]
    refine end_nx (ρ' := R5 s t) ?_ (end_if _ ?_ rfl (end_if _ ?_ rfl (end_if _ (or_ev _ _ ?_ ?_) rfl (end_rt rfl)))) <;>
    ( obtain ⟨p, ⟨x0, x1, x2⟩, ⟨y0, y1, y2⟩, ⟨f0, f1, f2⟩⟩ := s
      obtain ⟨p', ⟨x0', x1', x2'⟩, ⟨y0', y1', y2'⟩, ⟨f0', f1', f2'⟩⟩ := t
      cases p <;> cases p' <;> kernel_rfl)
  rw [e]
  unfold hsB
  cases (!(decide ((t.p.k : Int) = (s.p.k : Int)))) <;> cases uprB s t <;> cases halfB s t <;> rfl
end Mv

/-! part T3 -/
set_option maxHeartbeats 4000000
namespace Mv
open PySem PySem.Spec L2

structure Q4 where
  a : Int
  b : Int
  c : Int
  d : Int
  deriving DecidableEq
def qD (q : Q4) : D := .tuple [.int q.a, .int q.b, .int q.c, .int q.d]
def qS (s t : Sd) : Q4 := ⟨tw0 s t s.p.i / 2, tw1 s t s.p.j / 2, tw0 s t s.p.j / 2, tw1 s t s.p.i / 2⟩
theorem slants_ev (s t : Sd) : F_slants_in [sD' s, sD' t] = some (qD (qS s t)) := by
  obtain ⟨p, ⟨x0, x1, x2⟩, ⟨y0, y1, y2⟩, ⟨f0, f1, f2⟩⟩ := s
  obtain ⟨p', ⟨x0', x1', x2'⟩, ⟨y0', y1', y2'⟩, ⟨f0', f1', f2'⟩⟩ := t
  cases p <;> kernel_rfl
def pairB (q : Q4) : Bool := decide ((q.a - q.b) % 2 = 0) && decide ((q.c - q.d) % 2 = 0)
theorem run1 {N : Nat} {fb : Ev → Option Out} {a : D} : runF 1 N fb [a] = endD (fb (padE [a] N)) := rfl
theorem paired_ev (q : Q4) : F_are_paired [qD q] = some (.bool (pairB q)) := by
  unfold F_are_paired
  rw [run1]
  exact end_rt (andV_ev _ _ (by kernel_rfl) (by kernel_rfl))
/-! ### stand_slanted -/
def par (z : Int) : Bool := decide (z % 2 = 1)
def evn (z : Int) : Bool := decide (z % 2 = 0)
def neg0 (v : V3) (n : Nat) : V3 := v.upd n (0 - ·)
def slnt (s : Sd) (q : Q4) : Sd :=
  { p := bif evn (q.a + q.c) then s.p else s.p.sw
    x := (s.x.upd s.p.i (· + q.a + q.d)).upd s.p.j (· + q.c + q.b)
    y := (s.y.upd s.p.i (· + q.a - q.d)).upd s.p.j (· + q.c - q.b)
    f := bif par q.c then neg0 (bif par q.a then neg0 s.f s.p.i else s.f) s.p.j else (bif par q.a then neg0 s.f s.p.i else s.f) }
def lD3 (v : V3) : D := .list [.int v.a, .int v.b, .int v.c]
def S0 (s : Sd) (q : Q4) : Ev := [some (sD' s), some (qD q), none, some (kN s.p.i), some (kN s.p.j), some (kN s.p.k), none, none, none, none, none, none]
def Sx (s : Sd) (q : Q4) (n : Nat) (u v : Int) : Ev := [some (sD' s), some (qD q), none, some (kN s.p.i), some (kN s.p.j), some (kN s.p.k), none, none, none, some (kN n), some (.int u), some (.int v)]
def Wo (x y f : V3) : Ev := [none, none, none, none, none, none, some (lD3 x), some (lD3 y), some (lD3 f), none, none, none]
theorem osq_nx {f g : Fo} {ρ ω ρ' ω' : Ev} (h : f ρ ω = some (.nx ρ' ω')) : osqE f g ρ ω = g ρ' ω' := by unfold osqE; rw [h]
theorem oif_ev {p : Ev → Option Bool} {f g : Fo} {ρ ω : Ev} (b : Bool) (h : p (mixE ρ ω) = some b) : oifE p f g ρ ω = (bif b then f ρ ω else g ρ ω) := by
  unfold oifE
  rw [h]
  cases b <;> rfl
theorem oloop2 {t : Tgt} {fb : Fo} {d1 d2 : D} {ρ ω ρ1 ρ2 ρ3 ρ4 ω2 ω4 : Ev} (h1 : tgE t d1 ρ = some ρ1) (h2 : fb ρ1 (wipeE ω t.slots) = some (.nx ρ2 ω2)) (h3 : tgE t d2 ρ2 = some ρ3) (h4 : fb ρ3 (wipeE ω2 t.slots) = some (.nx ρ4 ω4)) : oloopE t fb [d1, d2] ρ ω = some (.nx ρ4 ω4) := by
  unfold oloopE
  rw [h1]
  dsimp only
  rw [h2]
  dsimp only
  unfold oloopE
  rw [h3]
  dsimp only
  rw [h4]
  rfl
def bodyS : Fo := osqE (osetE 6 (vE 9) (o2 dAdd (o2 dAdd (o2 dIx (vE 6) (vE 9)) (vE 10)) (vE 11)))
  (osqE (osetE 7 (vE 9) (o2 dSub (o2 dAdd (o2 dIx (vE 7) (vE 9)) (vE 10)) (vE 11)))
  (oifE (toB (o2 dEq (o2 dMod (vE 10) (cE (.int 2))) (cE (.int 1)))) (osetE 8 (vE 9) (o2 dSub (cE (.int 0)) (o2 dIx (vE 8) (vE 9)))) ondE))
theorem bodyS_ev (s : Sd) (q : Q4) (n : Nat) (hn : n < 3) (u v : Int) (x y f : V3) : bodyS (Sx s q n u v) (Wo x y f) = some (.nx (Sx s q n u v) (Wo (x.upd n (· + u + v)) (y.upd n (· + u - v)) (bif par u then neg0 f n else f))) := by
  unfold bodyS
  rw [osq_nx (ρ' := Sx s q n u v) (ω' := Wo (x.upd n (· + u + v)) y f) (by match n, hn with | 0, _ => kernel_rfl | 1, _ => kernel_rfl | 2, _ => kernel_rfl),
    osq_nx (ρ' := Sx s q n u v) (ω' := Wo (x.upd n (· + u + v)) (y.upd n (· + u - v)) f) (by match n, hn with | 0, _ => kernel_rfl | 1, _ => kernel_rfl | 2, _ => kernel_rfl),
    oif_ev (par u) (by kernel_rfl)]
  cases par u with
  | false => rfl
  | true => match n, hn with
    | 0, _ => kernel_rfl
    | 1, _ => kernel_rfl
    | 2, _ => kernel_rfl
theorem Po.i_lt (p : Po) : p.i < 3 := by cases p <;> decide
theorem Po.j_lt (p : Po) : p.j < 3 := by cases p <;> decide
theorem runO2 {N : Nat} {fb : Fo} {a b : D} : runO 2 N fb [a, b] = endO (fb (padE [a, b] N) (List.replicate N none)) := rfl
theorem stand_slanted_ev (s : Sd) (q : Q4) : F_stand_slanted [sD' s, qD q] = some (sD' (slnt s q)) := by
  unfold F_stand_slanted
  rw [runO2]
  unfold B_stand_slanted
  have h1 : ∀ g : Fo, osqE (otE (.tup [3, 4, 5]) (o2 dIx (vE 0) (cE (.int 0)))) g (padE [sD' s, qD q] 12) (List.replicate 12 none) = g (S0 s q) (List.replicate 12 none) := fun g => osq_nx (by
    obtain ⟨p, x, y, f⟩ := s
    cases p <;> kernel_rfl)
  rw [h1]
  have h2 : ∀ g : Fo, osqE (o3E 6 7 8 (seqE (o2 dIx (vE 0) (cE (.int 1)))) (seqE (o2 dIx (vE 0) (cE (.int 2)))) (seqE (o2 dIx (vE 0) (cE (.int 3))))) g (S0 s q) (List.replicate 12 none) = g (S0 s q) (Wo s.x s.y s.f) := fun g => osq_nx (by kernel_rfl)
  rw [h2]
  refine (congrArg endO (osq_nx (ρ' := Sx s q s.p.j q.c q.b) (ω' := Wo (slnt s q).x (slnt s q).y (slnt s q).f) ?_)).trans ?_
  · show oloopE (.tup [9, 10, 11]) bodyS [.tuple [kN s.p.i, .int q.a, .int q.d], .tuple [kN s.p.j, .int q.c, .int q.b]] (S0 s q) (Wo s.x s.y s.f) = _
    exact oloop2 (ρ1 := Sx s q s.p.i q.a q.d) (by kernel_rfl) (bodyS_ev s q s.p.i s.p.i_lt q.a q.d s.x s.y s.f) (by kernel_rfl) (bodyS_ev s q s.p.j s.p.j_lt q.c q.b _ _ _)
  · have h3 : ifE (toB (o2 dEq (o2 dMod (o2 dAdd (o2 dIx (vE 1) (cE (.int 0))) (o2 dIx (vE 1) (cE (.int 2)))) (cE (.int 2))) (cE (.int 0)))) (aE mkT (consA (vE 3) (consA (vE 4) (consA (vE 5) nilA)))) (aE mkT (consA (vE 4) (consA (vE 3) (consA (vE 5) nilA)))) (Sx s q s.p.j q.c q.b) = some (pD (slnt s q).p) := by
      rw [if_ev (x := pD s.p) (y := pD s.p.sw) (evn (q.a + q.c)) (by kernel_rfl) (by obtain ⟨p, x, y, f⟩ := s; cases p <;> kernel_rfl) (by obtain ⟨p, x, y, f⟩ := s; cases p <;> kernel_rfl)]
      unfold slnt
      cases evn (q.a + q.c) <;> rfl
    generalize slnt s q = r at *
    refine (congrArg endO (osq_nx (ρ' := stE (Sx s q s.p.j q.c q.b) 2 (some (pD r.p))) (ω' := Wo r.x r.y r.f) ?_)).trans ?_
    · unfold opE
      rw [h3]
      rfl
    · obtain ⟨p, x, y, f⟩ := r
      cases p <;> kernel_rfl
/-! ### bar_in -/
theorem dNe_po (p p' : Po) : dNe (pD p) (pD p') = some (.bool (!(decide (p = p')))) := by cases p <;> cases p' <;> kernel_rfl
theorem dEq_po (p p' : Po) : dEq (pD p) (pD p') = some (.bool (decide (p = p'))) := by cases p <;> cases p' <;> kernel_rfl
def eqV (v u : V3) : Bool := decide (v.a = u.a) && (decide (v.b = u.b) && (decide (v.c = u.c) && true))
theorem dEq_v (v u : V3) : dEq (vD v) (vD u) = some (.bool (eqV v u)) := by kernel_rfl
def barB (s t : Sd) : Str := bif !(decide (hsB s t = "")) then hsB s t else bif !(pairB (qS s t)) then "odd" else bif !(decide ((slnt s (qS s t)).p = t.p)) then "way" else bif eqV (slnt s (qS s t)).f t.f then "" else "fronts"
theorem hs_vals (s t : Sd) : hsB s t = "shape" ∨ hsB s t = "upright" ∨ hsB s t = "half" ∨ hsB s t = "" := by
  unfold hsB
  cases (!(decide ((t.p.k : Int) = (s.p.k : Int)))) <;> cases uprB s t <;> cases halfB s t <;> simp
theorem bar_in_ev (s t : Sd) : F_bar_in [sD' s, sD' t] = some (.str (barB s t)) := by
  unfold F_bar_in
  rw [run2]
  unfold B_bar_in
  have h0 : ∀ g : Ev → Option Out, sqE (asE 2 (aE F_has_slants (consA (vE 0) (consA (vE 1) nilA)))) g (padE [sD' s, sD' t] 5) = g [some (sD' s), some (sD' t), some (.str (hsB s t)), none, none] := fun g => as_nx (has_slants_ev s t)
  rw [h0]
  have h1 : toB (o2 dNe (vE 2) (cE (.str ""))) [some (sD' s), some (sD' t), some (.str (hsB s t)), none, none] = some (!(decide (hsB s t = ""))) := by
    show (match dNe (.str (hsB s t)) (.str "") with | some (.bool b) => some b | _ => none) = _
    rcases hs_vals s t with h | h | h | h <;> rw [h] <;> kernel_rfl
  refine (end_if _ h1 rfl (o := bif !(pairB (qS s t)) then some (.str "odd") else bif !(decide ((slnt s (qS s t)).p = t.p)) then some (.str "way") else some (.str (bif eqV (slnt s (qS s t)).f t.f then "" else "fronts"))) ?_).trans ?_
  · refine end_nx (ρ' := [some (sD' s), some (sD' t), some (.str (hsB s t)), some (qD (qS s t)), none]) ?_ ?_
    · unfold asE
      rw [show aE F_slants_in (consA (vE 0) (consA (vE 1) nilA)) [some (sD' s), some (sD' t), some (.str (hsB s t)), none, none] = some (qD (qS s t)) from slants_ev s t]
      rfl
    · refine end_if (!(pairB (qS s t))) ?_ rfl ?_
      · have : toB (aE F_are_paired (consA (vE 3) nilA)) [some (sD' s), some (sD' t), some (.str (hsB s t)), some (qD (qS s t)), none] = some (pairB (qS s t)) := toB_ev (paired_ev _)
        unfold notB
        rw [this]
      · refine end_nx (ρ' := [some (sD' s), some (sD' t), some (.str (hsB s t)), some (qD (qS s t)), some (sD' (slnt s (qS s t)))]) ?_ ?_
        · unfold asE
          rw [show aE F_stand_slanted (consA (vE 0) (consA (vE 3) nilA)) [some (sD' s), some (sD' t), some (.str (hsB s t)), some (qD (qS s t)), none] = some (sD' (slnt s (qS s t))) from stand_slanted_ev s _]
          rfl
        · refine end_if _ (toB_ev (dNe_po _ _)) rfl (end_rt ?_)
          rw [if_ev (eqV (slnt s (qS s t)).f t.f) (toB_ev (dEq_v _ _)) rfl rfl]
          cases eqV (slnt s (qS s t)).f t.f <;> rfl
  · unfold barB
    cases (!(decide (hsB s t = ""))) <;> cases (!(pairB (qS s t))) <;> cases (!(decide ((slnt s (qS s t)).p = t.p))) <;> rfl
end Mv

/-! part T4 -/
set_option maxHeartbeats 4000000
namespace Mv
open PySem PySem.Spec L2

theorem o2_ev {op : D → D → Option D} {f g : Ev → Option D} {ρ : Ev} {x y : D} (h1 : f ρ = some x) (h2 : g ρ = some y) : o2 op f g ρ = op x y := by
  unfold o2
  rw [h1]
  dsimp only
  rw [h2]
theorem dNe_bb (a b : Bool) : dNe (.bool a) (.bool b) = some (.bool (!(a == b))) := by cases a <;> cases b <;> kernel_rfl
def ng (v : V3) (n : Nat) : V3 := v.upd n (- ·)
theorem Po.k_lt (p : Po) : p.k < 3 := by cases p <;> decide
theorem flip_ev (v : V3) (n : Nat) (hn : n < 3) : F_law_flip [vD v, kN n] = some (vD (ng v n)) := by
  match n, hn with
  | 0, _ => kernel_rfl
  | 1, _ => kernel_rfl
  | 2, _ => kernel_rfl
/-! ### _law_lean -/
def uprX (s t : Sd) : Bool := !(decide (s.x.get s.p.k = t.x.get s.p.k)) || !(decide (s.y.get s.p.k = t.y.get s.p.k))
def poN (s t : Sd) : Bool := !(decide (t.p = s.p) || decide (t.p = s.p.sw))
def odd4 (s t : Sd) : Bool := par (tw0 s t s.p.i) || (par (tw0 s t s.p.j) || (par (tw1 s t s.p.i) || par (tw1 s t s.p.j)))
def lnN (s t : Sd) : Bool := (poN s t || uprX s t) || odd4 s t
theorem filt_ev {ρ : Ev} (hl : 9 < ρ.length) : ∀ zs : List Int, compL (.one 9) (toB (o2 dEq (o2 dMod (vE 9) (cE (.int 2))) (cE (.int 1)))) (cE (.int 1)) ρ (zs.map fun z => PyData.int z) = some ((zs.filter par).map fun _ => PyData.int 1)
  | [] => rfl
  | z :: zs => by
    have ih := filt_ev hl zs
    rw [List.map_cons]
    unfold compL
    have e9 : nth (stE ρ 9 (some (.int z))) 9 = some (.int z) := nth_st_eq hl
    have ht : toB (o2 dEq (o2 dMod (vE 9) (cE (.int 2))) (cE (.int 1))) (stE ρ 9 (some (.int z))) = some (par z) := by
      unfold toB o2 vE cE
      rw [e9]
      rfl
    show (match toB (o2 dEq (o2 dMod (vE 9) (cE (.int 2))) (cE (.int 1))) (stE ρ 9 (some (.int z))) with | some true => _ | some false => _ | none => _) = _
    rw [ht]
    cases hb : par z with
    | true =>
      rw [List.filter_cons_of_pos hb, List.map_cons]
      show (match compL _ _ _ ρ _ with | some ys => some (PyData.int 1 :: ys) | none => none) = _
      rw [ih]
    | false =>
      rw [List.filter_cons_of_neg (by rw [hb]; decide)]
      exact ih
theorem dNe_nil (a b c d : Int) : dNe (.list (([a, b, c, d].filter par).map fun _ => PyData.int 1)) (.list []) = some (.bool (par a || (par b || (par c || par d)))) := by
  simp only [List.filter_cons, List.filter_nil]
  cases par a <;> cases par b <;> cases par c <;> cases par d <;> kernel_rfl
theorem notIn_po (p' p : Po) : dNotIn (pD p') (.tuple [pD p, pD p.sw]) = some (.bool (!(decide (p' = p) || decide (p' = p.sw)))) := by
  cases p' <;> cases p <;> kernel_rfl
def xsD (s t : Sd) : D := .list [.int (t.x.a - s.x.a), .int (t.x.b - s.x.b), .int (t.x.c - s.x.c)]
def ysD (s t : Sd) : D := .list [.int (t.y.a - s.y.a), .int (t.y.b - s.y.b), .int (t.y.c - s.y.c)]
def smD (s t : Sd) : D := .list [.int (tw0 s t 0), .int (tw0 s t 1), .int (tw0 s t 2)]
def gpD (s t : Sd) : D := .list [.int (tw1 s t 0), .int (tw1 s t 1), .int (tw1 s t 2)]
def optQ (b : Bool) (q : Q4) : D := bif b then .none else qD q
theorem lean_ev (s t : Sd) : F_law_lean [sD' s, sD' t] = some (optQ (lnN s t) (qS s t)) := by
  have e : F_law_lean [sD' s, sD' t] = (bif (poN s t || uprX s t) then some .none else bif odd4 s t then some .none else some (qD (qS s t))) := by
    unfold F_law_lean
    rw [run2]
    unfold B_law_lean
    refine end_nx (ρ' := [some (sD' s), some (sD' t), none, none, some (kN s.p.i), some (kN s.p.j), some (kN s.p.k), none, none, none, none]) ?_ ?_
    · obtain ⟨p, x, y, f⟩ := s
      cases p <;> kernel_rfl
    refine end_if _ (or_ev _ _ (toB_ev ?_) (or_ev _ _ ?_ ?_)) rfl ?_
    · have : ∀ p p' : Po, pD p' = pD p' → True := fun _ _ _ => trivial
      show (match some (pD t.p) with | some x => (match some (PyData.tuple [PyData.tuple [kN s.p.i, kN s.p.j, kN s.p.k], PyData.tuple [kN s.p.j, kN s.p.i, kN s.p.k]]) with | some y => dNotIn x y | none => none) | none => none) = _
      have e1 : PyData.tuple [kN s.p.i, kN s.p.j, kN s.p.k] = pD s.p := by cases s.p <;> rfl
      have e2 : PyData.tuple [kN s.p.j, kN s.p.i, kN s.p.k] = pD s.p.sw := by cases s.p <;> rfl
      rw [e1, e2]
      exact notIn_po t.p s.p
    · obtain ⟨p, x, y, f⟩ := s
      cases p <;> kernel_rfl
    · obtain ⟨p, x, y, f⟩ := s
      cases p <;> kernel_rfl
    refine end_nx (ρ' := [some (sD' s), some (sD' t), some (xsD s t), none, some (kN s.p.i), some (kN s.p.j), some (kN s.p.k), none, none, none, none]) (by kernel_rfl) ?_
    refine end_nx (ρ' := [some (sD' s), some (sD' t), some (xsD s t), some (ysD s t), some (kN s.p.i), some (kN s.p.j), some (kN s.p.k), none, none, none, none]) (by kernel_rfl) ?_
    refine end_nx (ρ' := [some (sD' s), some (sD' t), some (xsD s t), some (ysD s t), some (kN s.p.i), some (kN s.p.j), some (kN s.p.k), some (smD s t), some (gpD s t), none, none]) (by kernel_rfl) ?_
    refine end_if (odd4 s t) (toB_ev ?_) rfl (end_rt ?_)
    · have hc : compE (seqE (aE mkT (consA (o2 dIx (vE 7) (vE 4)) (consA (o2 dIx (vE 7) (vE 5)) (consA (o2 dIx (vE 8) (vE 4)) (consA (o2 dIx (vE 8) (vE 5)) nilA)))))) (.one 9) ([9]) (toB (o2 dEq (o2 dMod (vE 9) (cE (.int 2))) (cE (.int 1)))) (cE (.int 1)) [some (sD' s), some (sD' t), some (xsD s t), some (ysD s t), some (kN s.p.i), some (kN s.p.j), some (kN s.p.k), some (smD s t), some (gpD s t), none, none] = some (.list (([tw0 s t s.p.i, tw0 s t s.p.j, tw1 s t s.p.i, tw1 s t s.p.j].filter par).map fun _ => PyData.int 1)) := by
        unfold compE
        rw [show seqE (aE mkT (consA (o2 dIx (vE 7) (vE 4)) (consA (o2 dIx (vE 7) (vE 5)) (consA (o2 dIx (vE 8) (vE 4)) (consA (o2 dIx (vE 8) (vE 5)) nilA))))) [some (sD' s), some (sD' t), some (xsD s t), some (ysD s t), some (kN s.p.i), some (kN s.p.j), some (kN s.p.k), some (smD s t), some (gpD s t), none, none] = some ([tw0 s t s.p.i, tw0 s t s.p.j, tw1 s t s.p.i, tw1 s t s.p.j].map fun z => PyData.int z) from by
          obtain ⟨p, x, y, f⟩ := s
          cases p <;> kernel_rfl]
        dsimp only
        rw [filt_ev (by show 9 < 11; decide)]
        rfl
      rw [o2_ev hc rfl]
      exact dNe_nil _ _ _ _
    · obtain ⟨p, x, y, f⟩ := s
      cases p <;> kernel_rfl
  rw [e]
  unfold optQ lnN
  cases (poN s t || uprX s t) <;> cases odd4 s t <;> rfl
/-! ### _law_word -/
def lk1 (s : Sd) (q : Q4) : V3 := bif evn q.a then s.f else ng s.f s.p.i
def lk2 (s : Sd) (q : Q4) : V3 := bif evn q.c then lk1 s q else ng (lk1 s q) s.p.j
def wordB (s t : Sd) : Str := bif !(decide ((t.p.k : Int) = (s.p.k : Int))) then "shape" else bif uprX s t then "upright" else bif lnN s t then "half" else
  bif (par ((qS s t).a + (qS s t).b) || par ((qS s t).c + (qS s t).d)) then "odd" else bif !(decide (t.p = s.p) == evn ((qS s t).a + (qS s t).c)) then "way" else bif eqV t.f (lk2 s (qS s t)) then "" else "fronts"
theorem word_ev (s t : Sd) : F_law_word [sD' s, sD' t] = some (.str (wordB s t)) := by
  have e : F_law_word [sD' s, sD' t] = (bif !(decide ((t.p.k : Int) = (s.p.k : Int))) then some (.str "shape") else bif uprX s t then some (.str "upright") else bif lnN s t then some (.str "half") else
      bif (par ((qS s t).a + (qS s t).b) || par ((qS s t).c + (qS s t).d)) then some (.str "odd") else bif !(decide (t.p = s.p) == evn ((qS s t).a + (qS s t).c)) then some (.str "way") else some (.str (bif eqV t.f (lk2 s (qS s t)) then "" else "fronts"))) := by
    unfold F_law_word
    rw [run2]
    unfold B_law_word
    refine end_nx (ρ' := [some (sD' s), some (sD' t), none, none, some (kN s.p.i), some (kN s.p.j), some (kN s.p.k)]) ?_ ?_
    · obtain ⟨p, x, y, f⟩ := s
      cases p <;> kernel_rfl
    refine end_if _ ?_ rfl (end_if _ (or_ev _ _ ?_ ?_) rfl ?_)
    · obtain ⟨p, x, y, f⟩ := s
      obtain ⟨p', x', y', f'⟩ := t
      cases p <;> cases p' <;> kernel_rfl
    · obtain ⟨p, x, y, f⟩ := s
      cases p <;> kernel_rfl
    · obtain ⟨p, x, y, f⟩ := s
      cases p <;> kernel_rfl
    refine end_nx (ρ' := [some (sD' s), some (sD' t), some (optQ (lnN s t) (qS s t)), none, some (kN s.p.i), some (kN s.p.j), some (kN s.p.k)]) ?_ ?_
    · unfold asE
      rw [show aE F_law_lean (consA (vE 0) (consA (vE 1) nilA)) [some (sD' s), some (sD' t), none, none, some (kN s.p.i), some (kN s.p.j), some (kN s.p.k)] = some (optQ (lnN s t) (qS s t)) from lean_ev s t]
      rfl
    cases hl : lnN s t with
    | true =>
      exact (end_if true (by kernel_rfl) rfl rfl).trans rfl
    | false =>
      refine (end_if false (by kernel_rfl) rfl ?_).trans rfl
      show endD _ = (bif (par ((qS s t).a + (qS s t).b) || par ((qS s t).c + (qS s t).d)) then some (.str "odd") else bif !(decide (t.p = s.p) == evn ((qS s t).a + (qS s t).c)) then some (.str "way") else some (.str (bif eqV t.f (lk2 s (qS s t)) then "" else "fronts")))
      generalize qS s t = q
      refine end_if _ (or_ev _ _ (by kernel_rfl) (by kernel_rfl)) rfl (end_if _ ?_ rfl ?_)
      · refine toB_ev ?_
        rw [o2_ev (x := .bool (decide (t.p = s.p))) (y := .bool (evn (q.a + q.c))) (dEq_po _ _) (by kernel_rfl)]
        exact dNe_bb _ _
      refine end_nx (ρ' := [some (sD' s), some (sD' t), some (qD q), some (vD (lk1 s q)), some (kN s.p.i), some (kN s.p.j), some (kN s.p.k)]) ?_ (end_nx (ρ' := [some (sD' s), some (sD' t), some (qD q), some (vD (lk2 s q)), some (kN s.p.i), some (kN s.p.j), some (kN s.p.k)]) ?_ (end_rt ?_))
      · unfold asE
        rw [if_ev (x := vD s.f) (y := vD (ng s.f s.p.i)) (evn q.a) (by kernel_rfl) (by kernel_rfl) (flip_ev s.f s.p.i s.p.i_lt)]
        unfold lk1
        cases evn q.a <;> rfl
      · unfold asE
        rw [if_ev (x := vD (lk1 s q)) (y := vD (ng (lk1 s q) s.p.j)) (evn q.c) (by kernel_rfl) (by kernel_rfl) (flip_ev (lk1 s q) s.p.j s.p.j_lt)]
        unfold lk2
        cases evn q.c <;> rfl
      · rw [if_ev (eqV t.f (lk2 s q)) (toB_ev (dEq_v _ _)) rfl rfl]
        cases eqV t.f (lk2 s q) <;> rfl
  rw [e]
  unfold wordB
  cases (!(decide ((t.p.k : Int) = (s.p.k : Int)))) <;> cases uprX s t <;> cases lnN s t <;> cases (par ((qS s t).a + (qS s t).b) || par ((qS s t).c + (qS s t).d)) <;> cases (!(decide (t.p = s.p) == evn ((qS s t).a + (qS s t).c))) <;> rfl
end Mv

/-! part T5 -/
set_option maxHeartbeats 4000000
namespace Mv
open PySem PySem.Spec L2

/-! ### the law's word is the program's -/
theorem upr_eq (s t : Sd) : uprX s t = uprB s t := by
  unfold uprX uprB tw0 tw1
  generalize s.x.get s.p.k = a; generalize t.x.get s.p.k = b; generalize s.y.get s.p.k = c; generalize t.y.get s.p.k = d
  rw [Bool.eq_iff_iff]
  simp only [Bool.or_eq_true, Bool.not_eq_true', decide_eq_false_iff_not, Bool.and_true, Bool.and_eq_false_iff, decide_eq_true_eq]
  omega
theorem par_tw (s t : Sd) (n : Nat) : par (tw1 s t n) = par (tw0 s t n) := by
  unfold par tw0 tw1
  rw [Bool.eq_iff_iff, decide_eq_true_eq, decide_eq_true_eq]
  omega
theorem odd4_eq (s t : Sd) : odd4 s t = halfB s t := by
  unfold odd4 halfB
  rw [par_tw, par_tw]
  show (par (tw0 s t s.p.i) || (par (tw0 s t s.p.j) || (par (tw0 s t s.p.i) || par (tw0 s t s.p.j)))) = (par (tw0 s t s.p.i) || par (tw0 s t s.p.j))
  cases par (tw0 s t s.p.i) <;> cases par (tw0 s t s.p.j) <;> rfl
theorem poN_eq (s t : Sd) (h : (t.p.k : Int) = (s.p.k : Int)) : poN s t = false := by
  unfold poN
  revert h
  cases s.p <;> cases t.p <;> decide
theorem po_two (p p' : Po) (h : (p'.k : Int) = (p.k : Int)) : p' = p ∨ p' = p.sw := by
  revert h
  cases p <;> cases p' <;> decide
theorem sw_ne (p : Po) : p.sw ≠ p := by cases p <;> decide
theorem pair_eq (q : Q4) : (par (q.a + q.b) || par (q.c + q.d)) = !(pairB q) := by
  unfold par pairB
  rw [Bool.eq_iff_iff]
  simp only [Bool.or_eq_true, decide_eq_true_eq, Bool.not_eq_true', Bool.and_eq_false_iff, decide_eq_false_iff_not]
  omega
theorem evn_par (z : Int) : evn z = !(par z) := by
  unfold evn par
  rw [Bool.eq_iff_iff]
  simp only [decide_eq_true_eq, Bool.not_eq_true', decide_eq_false_iff_not]
  omega
theorem neg0_ng (v : V3) (n : Nat) : neg0 v n = ng v n := by
  unfold neg0 ng
  congr 1
  funext z
  omega
theorem lk2_eq (s : Sd) (q : Q4) : (slnt s q).f = lk2 s q := by
  show (bif par q.c then neg0 (bif par q.a then neg0 s.f s.p.i else s.f) s.p.j else (bif par q.a then neg0 s.f s.p.i else s.f)) = _
  unfold lk2 lk1
  rw [evn_par, evn_par]
  simp only [neg0_ng]
  cases par q.a <;> cases par q.c <;> rfl
theorem eqV_iff (v u : V3) : eqV v u = true ↔ v = u := by
  obtain ⟨a, b, c⟩ := v
  obtain ⟨a', b', c'⟩ := u
  unfold eqV
  simp only [Bool.and_eq_true, decide_eq_true_eq, Bool.and_true, V3.mk.injEq]
theorem eqV_comm (v u : V3) : eqV v u = eqV u v := by
  rw [Bool.eq_iff_iff, eqV_iff, eqV_iff]
  exact eq_comm
theorem word_eq (s t : Sd) : wordB s t = barB s t := by
  unfold wordB barB hsB
  rw [upr_eq]
  cases hk : !(decide ((t.p.k : Int) = (s.p.k : Int))) with
  | true => rfl
  | false =>
    have hk' : (t.p.k : Int) = (s.p.k : Int) := by simpa using hk
    cases hu : uprB s t with
    | true => rfl
    | false =>
      have hl : lnN s t = halfB s t := by
        unfold lnN
        rw [poN_eq s t hk', upr_eq, hu, odd4_eq]; rfl
      rw [hl]
      cases hh : halfB s t with
      | true => rfl
      | false =>
        show (bif (par ((qS s t).a + (qS s t).b) || par ((qS s t).c + (qS s t).d)) then _ else _) = (bif !(pairB (qS s t)) then _ else _)
        rw [pair_eq]
        cases !(pairB (qS s t)) with
        | true => rfl
        | false =>
          show (bif !(decide (t.p = s.p) == evn ((qS s t).a + (qS s t).c)) then _ else _) = (bif !(decide ((slnt s (qS s t)).p = t.p)) then _ else _)
          have hw : (decide (t.p = s.p) == evn ((qS s t).a + (qS s t).c)) = decide ((slnt s (qS s t)).p = t.p) := by
            show _ = decide ((bif evn ((qS s t).a + (qS s t).c) then s.p else s.p.sw) = t.p)
            rcases po_two s.p t.p hk' with h | h
            · rw [h]
              cases evn ((qS s t).a + (qS s t).c) with
              | true => simp
              | false => simp [sw_ne]
            · rw [h]
              cases evn ((qS s t).a + (qS s t).c) with
              | true => simp [sw_ne, (sw_ne s.p).symm]
              | false => simp [sw_ne]
          rw [hw]
          cases !(decide ((slnt s (qS s t)).p = t.p)) with
          | true => rfl
          | false =>
            show (bif eqV t.f (lk2 s (qS s t)) then _ else _) = (bif eqV (slnt s (qS s t)).f t.f then _ else _)
            rw [lk2_eq, eqV_comm]
/-! ### what leads where -/
theorem V3.ext' {v u : V3} (h0 : v.get 0 = u.get 0) (h1 : v.get 1 = u.get 1) (h2 : v.get 2 = u.get 2) : v = u := by
  obtain ⟨a, b, c⟩ := v
  obtain ⟨a', b', c'⟩ := u
  have h0' : a = a' := h0
  have h1' : b = b' := h1
  have h2' : c = c' := h2
  rw [h0', h1', h2']
theorem V3.extP {v u : V3} (p : Po) (hi : v.get p.i = u.get p.i) (hj : v.get p.j = u.get p.j) (hk : v.get p.k = u.get p.k) : v = u := by
  cases p
  · exact V3.ext' hi hj hk
  · exact V3.ext' hk hj hi
  · exact V3.ext' hj hk hi
  · exact V3.ext' hj hi hk
  · exact V3.ext' hk hi hj
  · exact V3.ext' hi hk hj
theorem get_upd2 (p : Po) (v : V3) (f g : Int → Int) : ((v.upd p.i f).upd p.j g).get p.i = f (v.get p.i) ∧ ((v.upd p.i f).upd p.j g).get p.j = g (v.get p.j) ∧ ((v.upd p.i f).upd p.j g).get p.k = v.get p.k := by
  cases p <;> exact ⟨rfl, rfl, rfl⟩
theorem slnt_x (s : Sd) (q : Q4) : (slnt s q).x.get s.p.i = s.x.get s.p.i + q.a + q.d ∧ (slnt s q).x.get s.p.j = s.x.get s.p.j + q.c + q.b ∧ (slnt s q).x.get s.p.k = s.x.get s.p.k := get_upd2 _ _ _ _
theorem slnt_y (s : Sd) (q : Q4) : (slnt s q).y.get s.p.i = s.y.get s.p.i + q.a - q.d ∧ (slnt s q).y.get s.p.j = s.y.get s.p.j + q.c - q.b ∧ (slnt s q).y.get s.p.k = s.y.get s.p.k := get_upd2 _ _ _ _
theorem qS_slnt (s : Sd) (q : Q4) : qS s (slnt s q) = q := by
  obtain ⟨x1, x2, _⟩ := slnt_x s q
  obtain ⟨y1, y2, _⟩ := slnt_y s q
  obtain ⟨a, b, c, d⟩ := q
  unfold qS tw0 tw1
  rw [x1, x2, y1, y2, Q4.mk.injEq]
  dsimp only
  refine ⟨?_, ?_, ?_, ?_⟩ <;> omega
theorem slnt_inj {s : Sd} {q q' : Q4} (h : slnt s q = slnt s q') : q = q' := by
  rw [← qS_slnt s q, h, qS_slnt]
theorem slnt_k (s : Sd) (q : Q4) : (slnt s q).p.k = s.p.k := by
  show (bif evn (q.a + q.c) then s.p else s.p.sw).k = _
  cases evn (q.a + q.c) with
  | true => rfl
  | false =>
    show s.p.sw.k = s.p.k
    cases s.p <;> rfl
theorem bar_slnt (s : Sd) (q : Q4) (h : pairB q = true) : barB s (slnt s q) = "" := by
  obtain ⟨x1, x2, x3⟩ := slnt_x s q
  obtain ⟨y1, y2, y3⟩ := slnt_y s q
  have hh : hsB s (slnt s q) = "" := by
    unfold hsB
    have h1 : (!(decide (((slnt s q).p.k : Int) = (s.p.k : Int)))) = false := by rw [slnt_k]; simp
    have h2 : uprB s (slnt s q) = false := by
      rw [← upr_eq]
      unfold uprX
      rw [x3, y3]; simp
    have h3 : halfB s (slnt s q) = false := by
      unfold halfB tw0
      rw [x1, x2, y1, y2]
      rw [Bool.or_eq_false_iff, decide_eq_false_iff_not, decide_eq_false_iff_not]
      omega
    rw [h1, h2, h3]; rfl
  unfold barB
  rw [hh, qS_slnt, h]
  have h4 : eqV (slnt s q).f (slnt s q).f = true := (eqV_iff _ _).mpr rfl
  rw [h4]
  simp
theorem bar_none {s t : Sd} (h : barB s t = "") : pairB (qS s t) = true ∧ t = slnt s (qS s t) := by
  unfold barB at h
  have e1 : ("odd" : Str) ≠ "" := by decide
  have e2 : ("way" : Str) ≠ "" := by decide
  have e3 : ("fronts" : Str) ≠ "" := by decide
  cases hh : decide (hsB s t = "") with
  | false =>
    rw [hh] at h
    exact absurd h (of_decide_eq_false hh)
  | true =>
    rw [hh] at h
    have hh' := of_decide_eq_true hh
    cases hp : pairB (qS s t) with
    | false => rw [hp] at h; exact absurd h e1
    | true =>
      rw [hp] at h
      cases hw : decide ((slnt s (qS s t)).p = t.p) with
      | false => rw [hw] at h; exact absurd h e2
      | true =>
        rw [hw] at h
        cases hf : eqV (slnt s (qS s t)).f t.f with
        | false => rw [hf] at h; exact absurd h e3
        | true =>
          refine ⟨rfl, ?_⟩
          have hw' := of_decide_eq_true hw
          have hf' := (eqV_iff _ _).mp hf
          unfold hsB at hh'
          have s1 : ("shape" : Str) ≠ "" := by decide
          have s2 : ("upright" : Str) ≠ "" := by decide
          have s3 : ("half" : Str) ≠ "" := by decide
          cases g1 : !(decide ((t.p.k : Int) = (s.p.k : Int))) with
          | true => rw [g1] at hh'; exact absurd hh' s1
          | false =>
            rw [g1] at hh'
            cases g2 : uprB s t with
            | true => rw [g2] at hh'; exact absurd hh' s2
            | false =>
              rw [g2] at hh'
              cases g3 : halfB s t with
              | true => rw [g3] at hh'; exact absurd hh' s3
              | false =>
                rw [← upr_eq] at g2
                unfold uprX at g2
                unfold halfB tw0 at g3
                simp only [Bool.or_eq_false_iff, Bool.not_eq_false', decide_eq_true_eq, decide_eq_false_iff_not] at g2 g3
                obtain ⟨x1, x2, x3⟩ := slnt_x s (qS s t)
                obtain ⟨y1, y2, y3⟩ := slnt_y s (qS s t)
                have hx : t.x = (slnt s (qS s t)).x := by
                  refine V3.extP s.p ?_ ?_ ?_
                  · rw [x1]; unfold qS tw0 tw1; dsimp only; omega
                  · rw [x2]; unfold qS tw0 tw1; dsimp only; omega
                  · rw [x3]; omega
                have hy : t.y = (slnt s (qS s t)).y := by
                  refine V3.extP s.p ?_ ?_ ?_
                  · rw [y1]; unfold qS tw0 tw1; dsimp only; omega
                  · rw [y2]; unfold qS tw0 tw1; dsimp only; omega
                  · rw [y3]; omega
                generalize slnt s (qS s t) = r at *
                obtain ⟨p, x, y, f⟩ := t
                obtain ⟨p', x', y', f'⟩ := r
                simp only at hw' hf' hx hy
                rw [hw', hf', hx, hy]
end Mv

/-! part T6 -/
set_option maxHeartbeats 4000000
namespace Mv
open PySem PySem.Spec L2

/-! ### one after another -/
def sg (a z : Int) : Int := bif par a then 0 - z else z
theorem get_upd1 (p : Po) (v : V3) (f : Int → Int) : ((v.upd p.i f).get p.i = f (v.get p.i) ∧ (v.upd p.i f).get p.j = v.get p.j ∧ (v.upd p.i f).get p.k = v.get p.k) ∧ ((v.upd p.j f).get p.i = v.get p.i ∧ (v.upd p.j f).get p.j = f (v.get p.j) ∧ (v.upd p.j f).get p.k = v.get p.k) := by
  cases p <;> exact ⟨⟨rfl, rfl, rfl⟩, rfl, rfl, rfl⟩
theorem slnt_f (s : Sd) (q : Q4) : (slnt s q).f.get s.p.i = sg q.a (s.f.get s.p.i) ∧ (slnt s q).f.get s.p.j = sg q.c (s.f.get s.p.j) ∧ (slnt s q).f.get s.p.k = s.f.get s.p.k := by
  show (bif par q.c then neg0 (bif par q.a then neg0 s.f s.p.i else s.f) s.p.j else (bif par q.a then neg0 s.f s.p.i else s.f)).get s.p.i = _ ∧ (bif par q.c then neg0 (bif par q.a then neg0 s.f s.p.i else s.f) s.p.j else (bif par q.a then neg0 s.f s.p.i else s.f)).get s.p.j = _ ∧ (bif par q.c then neg0 (bif par q.a then neg0 s.f s.p.i else s.f) s.p.j else (bif par q.a then neg0 s.f s.p.i else s.f)).get s.p.k = _
  unfold sg neg0
  cases par q.a <;> cases par q.c
  · exact ⟨rfl, rfl, rfl⟩
  · exact (get_upd1 s.p s.f _).2
  · exact (get_upd1 s.p s.f _).1
  · exact get_upd2 s.p s.f _ _
def cmp (q r : Q4) : Q4 := bif evn (q.a + q.c) then ⟨q.a + r.a, q.b + r.b, q.c + r.c, q.d + r.d⟩ else ⟨q.a + r.c, q.b + r.d, q.c + r.a, q.d + r.b⟩
theorem sg_sg (a b z : Int) : sg b (sg a z) = sg (a + b) z := by
  unfold sg
  cases ha : par a <;> cases hb : par b <;> cases hc : par (a + b) <;> simp only [cond_true, cond_false] <;> unfold par at ha hb hc <;> simp only [decide_eq_true_eq, decide_eq_false_iff_not] at ha hb hc <;> omega
theorem sw_i (p : Po) : p.sw.i = p.j ∧ p.sw.j = p.i ∧ p.sw.k = p.k ∧ p.sw.sw = p := by cases p <;> exact ⟨rfl, rfl, rfl, rfl⟩
theorem slnt_p (s : Sd) (q : Q4) : (slnt s q).p = bif evn (q.a + q.c) then s.p else s.p.sw := rfl
theorem Sd.ext' {s t : Sd} (hp : s.p = t.p) (hx : s.x = t.x) (hy : s.y = t.y) (hf : s.f = t.f) : s = t := by
  obtain ⟨p, x, y, f⟩ := s
  obtain ⟨p', x', y', f'⟩ := t
  simp only at hp hx hy hf
  rw [hp, hx, hy, hf]
theorem slnt_cmp (s : Sd) (q r : Q4) : slnt (slnt s q) r = slnt s (cmp q r) := by
  obtain ⟨x1, x2, x3⟩ := slnt_x s q
  obtain ⟨y1, y2, y3⟩ := slnt_y s q
  obtain ⟨f1, f2, f3⟩ := slnt_f s q
  obtain ⟨u1, u2, u3⟩ := slnt_x (slnt s q) r
  obtain ⟨v1, v2, v3⟩ := slnt_y (slnt s q) r
  obtain ⟨g1, g2, g3⟩ := slnt_f (slnt s q) r
  obtain ⟨a1, a2, a3⟩ := slnt_x s (cmp q r)
  obtain ⟨b1, b2, b3⟩ := slnt_y s (cmp q r)
  obtain ⟨c1, c2, c3⟩ := slnt_f s (cmp q r)
  have hp0 : (slnt (slnt s q) r).p = bif evn (r.a + r.c) then (slnt s q).p else (slnt s q).p.sw := slnt_p _ _
  have hp1 : (slnt s (cmp q r)).p = bif evn ((cmp q r).a + (cmp q r).c) then s.p else s.p.sw := slnt_p _ _
  cases he : evn (q.a + q.c) with
  | true =>
    have hp : (slnt s q).p = s.p := by rw [slnt_p, he]; rfl
    have hc : cmp q r = ⟨q.a + r.a, q.b + r.b, q.c + r.c, q.d + r.d⟩ := by unfold cmp; rw [he]; rfl
    rw [hp] at u1 u2 u3 v1 v2 v3 g1 g2 g3 hp0
    rw [hc] at a1 a2 a3 b1 b2 b3 c1 c2 c3 hp1 ⊢
    dsimp only at a1 a2 a3 b1 b2 b3 c1 c2 c3 hp1
    refine Sd.ext' ?_ (V3.extP s.p ?_ ?_ ?_) (V3.extP s.p ?_ ?_ ?_) (V3.extP s.p ?_ ?_ ?_)
    · rw [hp0, hp1]
      have : evn (r.a + r.c) = evn (q.a + r.a + (q.c + r.c)) := by
        unfold evn at he ⊢
        rw [decide_eq_true_eq] at he
        rw [Bool.eq_iff_iff, decide_eq_true_eq, decide_eq_true_eq]
        omega
      rw [this]
    · rw [u1, a1, x1]; omega
    · rw [u2, a2, x2]; omega
    · rw [u3, a3, x3]
    · rw [v1, b1, y1]; omega
    · rw [v2, b2, y2]; omega
    · rw [v3, b3, y3]
    · rw [g1, c1, f1, sg_sg]
    · rw [g2, c2, f2, sg_sg]
    · rw [g3, c3, f3]
  | false =>
    have hp : (slnt s q).p = s.p.sw := by rw [slnt_p, he]; rfl
    have hc : cmp q r = ⟨q.a + r.c, q.b + r.d, q.c + r.a, q.d + r.b⟩ := by unfold cmp; rw [he]; rfl
    obtain ⟨w1, w2, w3, w4⟩ := sw_i s.p
    rw [hp] at u1 u2 u3 v1 v2 v3 g1 g2 g3 hp0
    rw [w1] at u1 v1 g1
    rw [w2] at u2 v2 g2
    rw [w3] at u3 v3 g3
    rw [w4] at hp0
    rw [hc] at a1 a2 a3 b1 b2 b3 c1 c2 c3 hp1 ⊢
    dsimp only at a1 a2 a3 b1 b2 b3 c1 c2 c3 hp1
    refine Sd.ext' ?_ (V3.extP s.p ?_ ?_ ?_) (V3.extP s.p ?_ ?_ ?_) (V3.extP s.p ?_ ?_ ?_)
    · rw [hp0, hp1]
      have : evn (r.a + r.c) = !(evn (q.a + r.c + (q.c + r.a))) := by
        unfold evn at he ⊢
        rw [decide_eq_false_iff_not] at he
        rw [Bool.eq_iff_iff, decide_eq_true_eq, Bool.not_eq_true', decide_eq_false_iff_not]
        omega
      rw [this]
      cases evn (q.a + r.c + (q.c + r.a)) <;> rfl
    · rw [u2, a1, x1]; omega
    · rw [u1, a2, x2]; omega
    · rw [u3, a3, x3]
    · rw [v2, b1, y1]; omega
    · rw [v1, b2, y2]; omega
    · rw [v3, b3, y3]
    · rw [g2, c1, f1, sg_sg]
    · rw [g1, c2, f2, sg_sg]
    · rw [g3, c3, f3]
/-- what one turn does -/
def mv (m : Nat) : Q4 := if m % 2 = 1 then ⟨0, 0, nrt m, est m⟩ else ⟨est m, -nrt m, 0, 0⟩
theorem tn_slnt (s : Sd) : ∀ m, m < 8 → tn s m = slnt s (mv m) := by
  intro m hm
  obtain ⟨x1, x2, x3⟩ := slnt_x s (mv m)
  obtain ⟨y1, y2, y3⟩ := slnt_y s (mv m)
  obtain ⟨f1, f2, f3⟩ := slnt_f s (mv m)
  obtain ⟨u1, u2, u3⟩ := get_upd2 s.p s.x (· + est m) (· + nrt m * sgn m)
  have vy : ∀ (v : V3) (f g : Int → Int), ((v.upd s.p.j f).upd s.p.i g).get s.p.i = g (v.get s.p.i) ∧ ((v.upd s.p.j f).upd s.p.i g).get s.p.j = f (v.get s.p.j) ∧ ((v.upd s.p.j f).upd s.p.i g).get s.p.k = v.get s.p.k := fun v f g => by cases s.p <;> exact ⟨rfl, rfl, rfl⟩
  obtain ⟨v1, v2, v3⟩ := vy s.y (· + nrt m) (· + -est m * sgn m)
  have fp : (slnt s (mv m)).p = s.p.sw := by
    rw [slnt_p]
    match m, hm with
    | 0, _ => rfl
    | 1, _ => rfl
    | 2, _ => rfl
    | 3, _ => rfl
    | 4, _ => rfl
    | 5, _ => rfl
    | 6, _ => rfl
    | 7, _ => rfl
  have ft : (tn s m).f.get s.p.i = sg (mv m).a (s.f.get s.p.i) ∧ (tn s m).f.get s.p.j = sg (mv m).c (s.f.get s.p.j) ∧ (tn s m).f.get s.p.k = s.f.get s.p.k := by
    obtain ⟨⟨i1, i2, i3⟩, j1, j2, j3⟩ := get_upd1 s.p s.f (- ·)
    have z : ∀ z : Int, -z = 0 - z := fun z => by omega
    match m, hm with
    | 0, _ => exact ⟨i1.trans (z _), i2, i3⟩
    | 1, _ => exact ⟨j1, j2.trans (z _), j3⟩
    | 2, _ => exact ⟨i1.trans (z _), i2, i3⟩
    | 3, _ => exact ⟨j1, j2.trans (z _), j3⟩
    | 4, _ => exact ⟨i1.trans (z _), i2, i3⟩
    | 5, _ => exact ⟨j1, j2.trans (z _), j3⟩
    | 6, _ => exact ⟨i1.trans (z _), i2, i3⟩
    | 7, _ => exact ⟨j1, j2.trans (z _), j3⟩
  have num : est m = (mv m).a + (mv m).d ∧ nrt m * sgn m = (mv m).c + (mv m).b ∧ -est m * sgn m = (mv m).a - (mv m).d ∧ nrt m = (mv m).c - (mv m).b := by
    match m, hm with
    | 0, _ => decide
    | 1, _ => decide
    | 2, _ => decide
    | 3, _ => decide
    | 4, _ => decide
    | 5, _ => decide
    | 6, _ => decide
    | 7, _ => decide
  obtain ⟨n1, n2, n3, n4⟩ := num
  refine Sd.ext' fp.symm (V3.extP s.p (u1.trans ?_) (u2.trans ?_) (u3.trans x3.symm)) (V3.extP s.p (v1.trans ?_) (v2.trans ?_) (v3.trans y3.symm)) (V3.extP s.p (ft.1.trans f1.symm) (ft.2.1.trans f2.symm) (ft.2.2.trans f3.symm))
  · rw [x1]; show _ + est m = _; omega
  · rw [x2]; show _ + nrt m * sgn m = _; omega
  · rw [y1]; show _ + -est m * sgn m = _; omega
  · rw [y2]; show _ + nrt m = _; omega
theorem slnt_0 (s : Sd) : slnt s ⟨0, 0, 0, 0⟩ = s := by
  have h := qS_slnt s ⟨0, 0, 0, 0⟩
  obtain ⟨x1, x2, x3⟩ := slnt_x s ⟨0, 0, 0, 0⟩
  obtain ⟨y1, y2, y3⟩ := slnt_y s ⟨0, 0, 0, 0⟩
  refine Sd.ext' rfl (V3.extP s.p ?_ ?_ x3) (V3.extP s.p ?_ ?_ y3) rfl
  · rw [x1]; simp
  · rw [x2]; simp
  · rw [y1]; simp
  · rw [y2]; simp
/-- the way back -/
def inv (q : Q4) : Q4 := bif evn (q.a + q.c) then ⟨-q.a, -q.b, -q.c, -q.d⟩ else ⟨-q.c, -q.d, -q.a, -q.b⟩
theorem cmp_inv (q : Q4) : cmp q (inv q) = ⟨0, 0, 0, 0⟩ := by
  unfold cmp inv
  cases evn (q.a + q.c) <;> simp only [cond_true, cond_false, Q4.mk.injEq] <;> omega
def mx (a b : Int) : Int := if (b.natAbs : Int) > a.natAbs then (b.natAbs : Int) else a.natAbs
def D4 (q : Q4) : Int := mx q.a q.b + mx q.c q.d
theorem mx_spec (a b : Int) : a ≤ mx a b ∧ -a ≤ mx a b ∧ b ≤ mx a b ∧ -b ≤ mx a b ∧ 0 ≤ mx a b ∧ (mx a b = a ∨ mx a b = -a ∨ mx a b = b ∨ mx a b = -b) := by
  unfold mx
  split <;> omega
theorem mx_neg (a b : Int) : mx (-a) (-b) = mx a b := by
  unfold mx
  rw [Int.natAbs_neg, Int.natAbs_neg]
theorem mx_add (a b c d : Int) : mx (a + c) (b + d) ≤ mx a b + mx c d := by
  have h1 := mx_spec a b
  have h2 := mx_spec c d
  obtain ⟨_, _, _, _, _, h⟩ := mx_spec (a + c) (b + d)
  rcases h with h | h | h | h <;> rw [h] <;> omega
theorem D4_inv (q : Q4) : D4 (inv q) = D4 q := by
  unfold D4 inv
  cases evn (q.a + q.c) with
  | true => show mx (-q.a) (-q.b) + mx (-q.c) (-q.d) = _; rw [mx_neg, mx_neg]
  | false => show mx (-q.c) (-q.d) + mx (-q.a) (-q.b) = _; rw [mx_neg, mx_neg]; omega
theorem pair_cmp {q r : Q4} (h1 : pairB q = true) (h2 : pairB r = true) : pairB (cmp q r) = true := by
  unfold pairB at *
  unfold cmp
  simp only [Bool.and_eq_true, decide_eq_true_eq] at h1 h2
  cases evn (q.a + q.c) <;> simp only [cond_true, cond_false, Bool.and_eq_true, decide_eq_true_eq] <;> omega
theorem pair_inv {q : Q4} (h : pairB q = true) : pairB (inv q) = true := by
  unfold pairB at *
  unfold inv
  simp only [Bool.and_eq_true, decide_eq_true_eq] at h
  cases evn (q.a + q.c) <;> simp only [cond_true, cond_false, Bool.and_eq_true, decide_eq_true_eq] <;> omega
theorem D4_cmp (q r : Q4) : D4 (cmp q r) ≤ D4 q + D4 r := by
  unfold D4 cmp
  cases evn (q.a + q.c) with
  | true =>
    have h1 := mx_add q.a q.b r.a r.b
    have h2 := mx_add q.c q.d r.c r.d
    show mx (q.a + r.a) (q.b + r.b) + mx (q.c + r.c) (q.d + r.d) ≤ _
    omega
  | false =>
    have h1 := mx_add q.a q.b r.c r.d
    have h2 := mx_add q.c q.d r.a r.b
    show mx (q.a + r.c) (q.b + r.d) + mx (q.c + r.a) (q.d + r.b) ≤ _
    omega
theorem D4_nonneg (q : Q4) : 0 ≤ D4 q := by
  unfold D4
  have h1 := mx_spec q.a q.b
  have h2 := mx_spec q.c q.d
  omega
end Mv

/-! part T7 -/
set_option maxHeartbeats 1000000
namespace Mv
open PySem PySem.Spec L2

/-! ### the flood is the same from every stand -/
abbrev Qd := List (Q4 × Int × Int)
def lookQ (es : Qd) (q : Q4) : Option (Int × Int) := (es.find? fun p => decide (p.1 = q)).map (·.2)
def putQ (es : Qd) (q : Q4) (u : Int × Int) : Qd := if (lookQ es q).isSome then es.map (fun p => if p.1 = q then (p.1, u) else p) else es ++ [(q, u)]
def qNew (lap : Int) (own : Q4) (st : Qd × List Q4) : Qd × List Q4 := match (lookQ st.1 own).isSome with
  | true => st
  | false => (putQ st.1 own (lap + 1, 0), st.2 ++ [own])
def qAdd (lap : Int) (own spot : Q4) (st : Qd × List Q4) : Option (Qd × List Q4) := match lookQ st.1 own with
  | some (l, c) => (match decide (l = lap + 1) with
    | true => (match lookQ st.1 spot with
      | some (_, c') => some (putQ st.1 own (lap + 1, c + c'), st.2)
      | none => none)
    | false => some st)
  | none => none
def qIn (lap : Int) (spot : Q4) (st : Qd × List Q4) (m : Nat) : Option (Qd × List Q4) := match Nat.ble st.1.length 60000 && Nat.ble st.2.length 60000 with
  | true => qAdd lap (cmp spot (mv m)) spot (qNew lap (cmp spot (mv m)) st)
  | false => none
def qSpot (lap : Int) (ms : List Nat) (st : Qd × List Q4) (spot : Q4) : Option (Qd × List Q4) := foldO (qIn lap spot) ms st
def qLap (ms : List Nat) (st : Qd × List Q4) (lap : Nat) : Option (Qd × List Q4) := foldO (qSpot lap ms) st.2 (st.1, [])
def q0 : Q4 := ⟨0, 0, 0, 0⟩
def turnsN : List Nat := [1, 3, 5, 7, 0, 2, 4, 6]
def levelsQ (n : Nat) : Option Qd := match foldO (qLap turnsN) (List.range n) ([(q0, 0, 1)], [q0]) with
  | some st => some st.1
  | none => none
def pK (p : Po) : NestedKey := .tup [.num (p.i : Nat), .num (p.j : Nat), .num (p.k : Nat)]
def vK (v : V3) : NestedKey := .tup [.num v.a, .num v.b, .num v.c]
def sK (s : Sd) : NestedKey := .tup [pK s.p, vK s.x, vK s.y, vK s.f]
theorem keyT_sD (s : Sd) : keyT (sD' s) = some (sK s) := by
  obtain ⟨p, x, y, f⟩ := s
  cases p <;> kernel_rfl
theorem keyN_sD (s : Sd) : keyN 8 (sD' s) = some (sK s) := by
  obtain ⟨p, x, y, f⟩ := s
  cases p <;> kernel_rfl
theorem vK_inj {v u : V3} (h : vK v = vK u) : v = u := by
  obtain ⟨a, b, c⟩ := v
  obtain ⟨a', b', c'⟩ := u
  unfold vK at h
  injection h with h
  injection h with h1 h
  injection h with h2 h
  injection h with h3 h
  injection h1 with h1
  injection h2 with h2
  injection h3 with h3
  simp only at h1 h2 h3
  rw [h1, h2, h3]
theorem pK_inj {p p' : Po} (h : pK p = pK p') : p = p' := by
  unfold pK at h
  injection h with h
  injection h with h1 h
  injection h with h2 h
  injection h1 with h1
  injection h2 with h2
  have h1 := Int.ofNat.inj h1
  have h2 := Int.ofNat.inj h2
  revert h1 h2
  cases p <;> cases p' <;> decide
theorem sK_inj {s t : Sd} (h : sK s = sK t) : s = t := by
  unfold sK at h
  injection h with h
  injection h with h1 h
  injection h with h2 h
  injection h with h3 h
  injection h with h4 _
  exact Sd.ext' (pK_inj h1) (vK_inj h2) (vK_inj h3) (vK_inj h4)
/-- an entry of the abstract flood, seen from s -/
def rE (s : Sd) (p : Q4 × Int × Int) : D × Int × Int := (sD' (slnt s p.1), p.2)
theorem find_key (s : Sd) (k : Sd) : ∀ es : Qd, lookE (es.map (rE s)) (sK k) = ((es.find? fun p => decide (slnt s p.1 = k)).map (·.2))
  | [] => rfl
  | p :: es => by
    have ih := find_key s k es
    unfold lookE at ih ⊢
    rw [List.map_cons, List.find?_cons, List.find?_cons]
    have e : decide (keyN 8 (rE s p).1 = some (sK k)) = decide (slnt s p.1 = k) := by
      show decide (keyN 8 (sD' (slnt s p.1)) = some (sK k)) = _
      rw [keyN_sD, Bool.eq_iff_iff, decide_eq_true_eq, decide_eq_true_eq]
      exact ⟨fun h => sK_inj (Option.some.inj h), fun h => by rw [h]⟩
    rw [e]
    cases decide (slnt s p.1 = k) with
    | true => rfl
    | false => exact ih
theorem look_sim (s : Sd) (q : Q4) (es : Qd) : lookE (es.map (rE s)) (sK (slnt s q)) = lookQ es q := by
  rw [find_key]
  unfold lookQ
  congr 2
  funext p
  rw [Bool.eq_iff_iff, decide_eq_true_eq, decide_eq_true_eq]
  exact ⟨slnt_inj, fun h => by rw [h]⟩
theorem put_sim (s : Sd) (q : Q4) (u : Int × Int) (es : Qd) : putE (es.map (rE s)) (sK (slnt s q)) (sD' (slnt s q)) u = (putQ es q u).map (rE s) := by
  unfold putE putQ
  rw [look_sim]
  cases (lookQ es q).isSome with
  | true =>
    rw [if_pos rfl, if_pos rfl, List.map_map, List.map_map]
    refine List.map_congr_left fun p _ => ?_
    show (if keyN 8 (sD' (slnt s p.1)) = some (sK (slnt s q)) then _ else _) = rE s (if p.1 = q then (p.1, u) else p)
    rw [keyN_sD]
    by_cases h : p.1 = q
    · rw [if_pos h, if_pos (by rw [h])]; rfl
    · rw [if_neg h, if_neg (fun z => h (slnt_inj (sK_inj (Option.some.inj z))))]
  | false =>
    rw [if_neg Bool.false_ne_true, if_neg Bool.false_ne_true, List.map_append]; rfl
/-- states -/
def rS (s : Sd) (st : Qd × List Q4) : Dd × List D := (st.1.map (rE s), st.2.map fun q => sD' (slnt s q))
theorem foldO_sim {α α' β β' : Type} (f : β → α → Option β) (f' : β' → α' → Option β') (x : α → α') (r : β → β') (h : ∀ b a, f' (r b) (x a) = (f b a).map r) : ∀ (as : List α) (b : β), foldO f' (as.map x) (r b) = (foldO f as b).map r
  | [], _ => rfl
  | a :: as, b => by
    rw [List.map_cons]
    unfold foldO
    rw [h]
    cases f b a with
    | none => rfl
    | some b' => exact foldO_sim f f' x r h as b'
theorem in_sim (s : Sd) (lap : Int) (spot : Q4) (st : Qd × List Q4) (m : Nat) (hm : m < 8) : lvIn lap (sD' (slnt s spot)) (rS s st) (mvD m) = (qIn lap spot st m).map (rS s) := by
  unfold lvIn qIn
  rw [step_turn _ m hm, tn_slnt _ m hm, slnt_cmp]
  have l1 : (rS s st).1.length = st.1.length := List.length_map _
  have l2 : (rS s st).2.length = st.2.length := List.length_map _
  rw [l1, l2]
  cases Nat.ble st.1.length 60000 && Nat.ble st.2.length 60000 with
  | false => rfl
  | true =>
    dsimp only
    rw [keyT_sD, keyT_sD]
    dsimp only
    generalize cmp spot (mv m) = own
    have hnew : lvNew lap (sD' (slnt s own)) (sK (slnt s own)) (rS s st) = rS s (qNew lap own st) := by
      unfold lvNew qNew
      show (match (lookE (st.1.map (rE s)) (sK (slnt s own))).isSome with | true => _ | false => _) = _
      rw [look_sim]
      cases (lookQ st.1 own).isSome with
      | true => rfl
      | false =>
        show (putE (st.1.map (rE s)) (sK (slnt s own)) (sD' (slnt s own)) (lap + 1, 0), (st.2.map fun q => sD' (slnt s q)) ++ [sD' (slnt s own)]) = rS s (putQ st.1 own (lap + 1, 0), st.2 ++ [own])
        rw [put_sim]
        unfold rS
        rw [List.map_append]; rfl
    rw [hnew]
    generalize qNew lap own st = st
    unfold lvAdd qAdd
    show (match lookE (st.1.map (rE s)) (sK (slnt s own)) with | some (l, c) => _ | none => none) = _
    rw [look_sim]
    cases lookQ st.1 own with
    | none => rfl
    | some lc =>
      obtain ⟨l, c⟩ := lc
      dsimp only
      cases decide (l = lap + 1) with
      | false => rfl
      | true =>
        show (match lookE (st.1.map (rE s)) (sK (slnt s spot)) with | some (_, c') => _ | none => none) = _
        rw [look_sim]
        cases lookQ st.1 spot with
        | none => rfl
        | some lc' =>
          obtain ⟨l', c'⟩ := lc'
          show some (putE (st.1.map (rE s)) (sK (slnt s own)) (sD' (slnt s own)) (lap + 1, c + c'), _) = some (rS s (putQ st.1 own (lap + 1, c + c'), st.2))
          rw [put_sim]; rfl
theorem foldO_congr {α β : Type} {f g : β → α → Option β} : ∀ (as : List α) (b : β), (∀ a ∈ as, ∀ b, f b a = g b a) → foldO f as b = foldO g as b
  | [], _, _ => rfl
  | a :: as, b, h => by
    unfold foldO
    rw [h a List.mem_cons_self]
    cases g b a with
    | none => rfl
    | some b' => exact foldO_congr as b' fun c hc => h c (List.mem_cons_of_mem _ hc)
theorem turnsN_lt : ∀ m ∈ turnsN, m < 8 := by decide
theorem foldO_simP {α α' β β' : Type} (f : β → α → Option β) (f' : β' → α' → Option β') (x : α → α') (r : β → β') : ∀ (as : List α) (b : β), (∀ a ∈ as, ∀ b, f' (r b) (x a) = (f b a).map r) → foldO f' (as.map x) (r b) = (foldO f as b).map r
  | [], _, _ => rfl
  | a :: as, b, h => by
    rw [List.map_cons]
    unfold foldO
    rw [h a List.mem_cons_self]
    cases f b a with
    | none => rfl
    | some b' => exact foldO_simP f f' x r as b' fun c hc => h c (List.mem_cons_of_mem _ hc)
def turnsD : List D := turnsN.map mvD
theorem spot_sim (s : Sd) (lap : Int) (st : Qd × List Q4) (spot : Q4) : lvSpot lap turnsD (rS s st) (sD' (slnt s spot)) = (qSpot lap turnsN st spot).map (rS s) :=
  foldO_simP _ _ mvD (rS s) turnsN st fun m hm st => in_sim s lap spot st m (turnsN_lt m hm)
theorem lap_sim (s : Sd) (lap : Nat) (st : Qd × List Q4) : lvLap turnsD (rS s st) (.int (lap : Nat)) = (qLap turnsN st lap).map (rS s) :=
  foldO_simP (qSpot lap turnsN) (lvSpot lap turnsD) (fun q => sD' (slnt s q)) (rS s) st.2 (st.1, []) fun q _ st => spot_sim s lap st q
theorem levels_sim (s : Sd) (n : Nat) {es : Qd} (h : levelsQ n = some es) : levelsD (sD' s) turnsD n = some (es.map (rE s)) := by
  unfold levelsQ at h
  unfold levelsD
  rw [keyT_sD]
  dsimp only
  have e : foldO (lvLap turnsD) (intsD n) (rS s ([(q0, 0, 1)], [q0])) = (foldO (qLap turnsN) (List.range n) ([(q0, 0, 1)], [q0])).map (rS s) :=
    foldO_simP (qLap turnsN) (lvLap turnsD) (fun i : Nat => PyData.int i) (rS s) (List.range n) _ fun i _ st => lap_sim s i st
  have e0 : rS s ([(q0, 0, 1)], [q0]) = ([(sD' s, 0, 1)], [sD' s]) := by
    show ([(sD' (slnt s q0), (0 : Int), (1 : Int))], [sD' (slnt s q0)]) = _
    rw [show slnt s q0 = s from slnt_0 s]
  rw [e0] at e
  rw [e]
  split at h
  · next st hst =>
    cases h
    rw [hst]; rfl
  · cases h
/-! ### what it holds -/
def Lq (n : Nat) : Qd := (levelsQ n).getD []
def rng (n : Nat) : List Int := (List.range (2 * n + 1)).map fun i : Nat => (i : Int) - (n : Int)
def okE (n : Nat) (p : Q4 × Int × Int) : Bool := pairB p.1 && (decide (D4 p.1 = p.2.1) && (decide (p.2.1 ≤ (n : Nat)) && small p.2.2))
def allB (n : Nat) : Bool := (rng n).all fun a => (rng n).all fun b => (rng n).all fun c => (rng n).all fun d => !(pairB ⟨a, b, c, d⟩ && decide (D4 ⟨a, b, c, d⟩ ≤ (n : Nat))) || (match lookQ (Lq n) ⟨a, b, c, d⟩ with
  | some (l, _) => decide (l = D4 ⟨a, b, c, d⟩)
  | none => false)
theorem L3_ok : (levelsQ 3).isSome = true ∧ (Lq 3).all (okE 3) = true ∧ (Lq 3).length ≤ 200 := by decide +kernel
theorem L2_ok : (levelsQ 2).isSome = true ∧ (Lq 2).all (okE 2) = true ∧ (Lq 2).length ≤ 200 := by decide +kernel
theorem L2_all : allB 2 = true := by decide +kernel
theorem L3_all : allB 3 = true := by decide +kernel
end Mv

/-! part T8 -/
set_option maxHeartbeats 1000000
namespace Mv
open PySem PySem.Spec L2

/-- what we know of the flood of depth n -/
structure Fl (n : Nat) : Prop where
  some_ : (levelsQ n).isSome = true
  ok : (Lq n).all (okE n) = true
  len : (Lq n).length ≤ 200
  all : allB n = true
theorem fl2 : Fl 2 := ⟨L2_ok.1, L2_ok.2.1, L2_ok.2.2, L2_all⟩
theorem fl3 : Fl 3 := ⟨L3_ok.1, L3_ok.2.1, L3_ok.2.2, L3_all⟩
theorem mem_rng {n : Nat} {a : Int} (h1 : -(n : Int) ≤ a) (h2 : a ≤ (n : Int)) : a ∈ rng n := by
  unfold rng
  refine List.mem_map.mpr ⟨(a + n).toNat, List.mem_range.mpr (by omega), by omega⟩
section
variable {n : Nat}
theorem Fl.eq (F : Fl n) : levelsQ n = some (Lq n) := by
  unfold Lq
  obtain ⟨x, hx⟩ := Option.isSome_iff_exists.mp F.some_
  rw [hx]; rfl
theorem Fl.at_ (F : Fl n) {q : Q4} (hp : pairB q = true) (hd : D4 q ≤ (n : Nat)) : ∃ c, lookQ (Lq n) q = some (D4 q, c) := by
  have h := F.all
  unfold allB at h
  obtain ⟨a, b, c, d⟩ := q
  have m1 := mx_spec a b
  have m2 := mx_spec c d
  have hd' : mx a b + mx c d ≤ (n : Nat) := hd
  have h1 := List.all_eq_true.mp h a (mem_rng (by omega) (by omega))
  have h2 := List.all_eq_true.mp h1 b (mem_rng (by omega) (by omega))
  have h3 := List.all_eq_true.mp h2 c (mem_rng (by omega) (by omega))
  have h4 := List.all_eq_true.mp h3 d (mem_rng (by omega) (by omega))
  rw [Bool.or_eq_true] at h4
  rcases h4 with h4 | h4
  · rw [hp, decide_eq_true hd] at h4
    cases h4
  · split at h4
    · next l c e => exact ⟨c, by rw [e, of_decide_eq_true h4]⟩
    · cases h4
theorem Fl.entry (F : Fl n) {p : Q4 × Int × Int} (h : p ∈ Lq n) : pairB p.1 = true ∧ D4 p.1 = p.2.1 ∧ p.2.1 ≤ (n : Nat) ∧ small p.2.2 = true := by
  have := List.all_eq_true.mp F.ok p h
  unfold okE at this
  simp only [Bool.and_eq_true, decide_eq_true_eq] at this
  exact this
theorem Fl.look (F : Fl n) {q : Q4} {l c : Int} (h : lookQ (Lq n) q = some (l, c)) : pairB q = true ∧ D4 q = l ∧ l ≤ (n : Nat) ∧ small c = true := by
  unfold lookQ at h
  rw [Option.map_eq_some_iff] at h
  obtain ⟨p, hp, e⟩ := h
  have hm := List.mem_of_find?_eq_some hp
  have hq : p.1 = q := by simpa using List.find?_some hp
  have := F.entry hm
  rw [hq, e] at this
  exact this
/-- what the flood from t says of the stand k -/
theorem Fl.from (F : Fl n) (t k : Sd) {l c : Int} (h : lookE ((Lq n).map (rE t)) (sK k) = some (l, c)) : ∃ q, k = slnt t q ∧ pairB q = true ∧ D4 q = l ∧ l ≤ (n : Nat) ∧ small c = true := by
  rw [find_key, Option.map_eq_some_iff] at h
  obtain ⟨p, hp, e⟩ := h
  have hm := List.mem_of_find?_eq_some hp
  have hq : slnt t p.1 = k := by simpa using List.find?_some hp
  have := F.entry hm
  rw [e] at this
  exact ⟨p.1, hq.symm, this⟩
end
/-! ### the meeting -/
theorem slnt_back {s t : Sd} {q : Q4} (h : t = slnt s q) : s = slnt t (inv q) := by
  rw [h, slnt_cmp, cmp_inv]
  exact (slnt_0 s).symm
theorem slnt_rel {s t : Sd} {q : Q4} (h : t = slnt s q) (r : Q4) : slnt s r = slnt t (cmp (inv q) r) := by
  rw [← slnt_cmp, ← slnt_back h]
theorem tri {q r : Q4} : D4 q ≤ D4 r + D4 (cmp (inv q) r) := by
  let s : Sd := ⟨.o012, ⟨0, 0, 0⟩, ⟨0, 0, 0⟩, ⟨1, 1, 1⟩⟩
  have h1 : slnt s r = slnt (slnt s q) (cmp (inv q) r) := slnt_rel rfl r
  have h2 : slnt s q = slnt (slnt s r) (inv (cmp (inv q) r)) := by
    rw [h1, slnt_cmp (slnt s q), cmp_inv]
    exact (slnt_0 _).symm
  rw [slnt_cmp] at h2
  have h3 := slnt_inj h2
  have h4 := D4_cmp r (inv (cmp (inv q) r))
  rw [← h3, D4_inv] at h4
  exact h4
theorem rel_D4 (q r : Q4) : D4 (cmp (inv q) r) = mx (r.a - q.a) (r.b - q.b) + mx (r.c - q.c) (r.d - q.d) := by
  cases h : evn (q.a + q.c) with
  | true =>
    have h2 : evn (-q.a + -q.c) = true := by unfold evn at *; rw [decide_eq_true_eq] at *; omega
    have hi : inv q = ⟨-q.a, -q.b, -q.c, -q.d⟩ := by unfold inv; rw [h]; rfl
    have hc : cmp (inv q) r = ⟨-q.a + r.a, -q.b + r.b, -q.c + r.c, -q.d + r.d⟩ := by rw [hi]; unfold cmp; dsimp only; rw [h2]; rfl
    rw [hc]
    show mx (-q.a + r.a) (-q.b + r.b) + mx (-q.c + r.c) (-q.d + r.d) = _
    rw [show -q.a + r.a = r.a - q.a by omega, show -q.b + r.b = r.b - q.b by omega, show -q.c + r.c = r.c - q.c by omega, show -q.d + r.d = r.d - q.d by omega]
  | false =>
    have h2 : evn (-q.c + -q.a) = false := by unfold evn at *; rw [decide_eq_false_iff_not] at *; omega
    have hi : inv q = ⟨-q.c, -q.d, -q.a, -q.b⟩ := by unfold inv; rw [h]; rfl
    have hc : cmp (inv q) r = ⟨-q.c + r.c, -q.d + r.d, -q.a + r.a, -q.b + r.b⟩ := by rw [hi]; unfold cmp; dsimp only; rw [h2]; rfl
    rw [hc]
    show mx (-q.c + r.c) (-q.d + r.d) + mx (-q.a + r.a) (-q.b + r.b) = _
    rw [show -q.a + r.a = r.a - q.a by omega, show -q.b + r.b = r.b - q.b by omega, show -q.c + r.c = r.c - q.c by omega, show -q.d + r.d = r.d - q.d by omega]
    omega
/-- half of the way, in one pair -/
def cutB : Bool := (rng 6).all fun a => (rng 6).all fun b => (List.range 4).all fun t => !(decide ((a - b) % 2 = 0) && decide ((t : Int) ≤ mx a b)) || (rng 3).any fun c => (rng 3).any fun d => decide ((c - d) % 2 = 0) && (decide (mx c d = (t : Int)) && decide (mx (c - a) (d - b) = mx a b - (t : Int)))
theorem cut_ok : cutB = true := by decide +kernel
theorem cut {a b : Int} {t : Nat} (h : (a - b) % 2 = 0) (h6 : mx a b ≤ 6) (ht : (t : Int) ≤ mx a b) (h3 : t ≤ 3) : ∃ c d, (c - d) % 2 = 0 ∧ mx c d = (t : Int) ∧ mx (c - a) (d - b) = mx a b - (t : Int) := by
  have m := mx_spec a b
  have h0 := cut_ok
  unfold cutB at h0
  have h1 := List.all_eq_true.mp h0 a (mem_rng (by omega) (by omega))
  have h2 := List.all_eq_true.mp h1 b (mem_rng (by omega) (by omega))
  have h4 := List.all_eq_true.mp h2 t (List.mem_range.mpr (by omega))
  rw [Bool.or_eq_true] at h4
  rcases h4 with h4 | h4
  · rw [decide_eq_true h, decide_eq_true ht] at h4
    cases h4
  · obtain ⟨c, _, h5⟩ := List.any_eq_true.mp h4
    obtain ⟨d, _, h5⟩ := List.any_eq_true.mp h5
    simp only [Bool.and_eq_true, decide_eq_true_eq] at h5
    exact ⟨c, d, h5⟩
theorem mid {q : Q4} {n : Nat} (hp : pairB q = true) (hn : n ≤ 3) (hd : D4 q ≤ 2 * (n : Int)) : ∃ r, pairB r = true ∧ D4 r ≤ (n : Nat) ∧ D4 (cmp (inv q) r) ≤ (n : Nat) ∧ D4 r + D4 (cmp (inv q) r) = D4 q := by
  have hp' := hp
  unfold pairB at hp'
  simp only [Bool.and_eq_true, decide_eq_true_eq] at hp'
  have m1 := mx_spec q.a q.b
  have m2 := mx_spec q.c q.d
  have hD : D4 q = mx q.a q.b + mx q.c q.d := rfl
  obtain ⟨t1, e1⟩ : ∃ t1 : Nat, (t1 : Int) = if mx q.a q.b ≤ n then mx q.a q.b else (n : Int) := ⟨(if mx q.a q.b ≤ n then mx q.a q.b else (n : Int)).toNat, by split <;> omega⟩
  obtain ⟨t2, e2⟩ : ∃ t2 : Nat, (t2 : Int) = if mx q.c q.d ≤ n - t1 then mx q.c q.d else (n : Int) - t1 := ⟨(if mx q.c q.d ≤ n - t1 then mx q.c q.d else (n : Int) - t1).toNat, by split at e1 <;> split <;> omega⟩
  obtain ⟨a, b, h1, h2, h3⟩ := cut (t := t1) hp'.1 (by omega) (by split at e1 <;> omega) (by split at e1 <;> omega)
  obtain ⟨c, d, g1, g2, g3⟩ := cut (t := t2) hp'.2 (by omega) (by split at e1 <;> split at e2 <;> omega) (by split at e1 <;> split at e2 <;> omega)
  refine ⟨⟨a, b, c, d⟩, by unfold pairB; simp only [Bool.and_eq_true, decide_eq_true_eq]; exact ⟨h1, g1⟩, ?_, ?_, ?_⟩
  · show mx a b + mx c d ≤ _
    rw [h2, g2]
    split at e1 <;> split at e2 <;> omega
  · rw [rel_D4]
    show mx (a - q.a) (b - q.b) + mx (c - q.c) (d - q.d) ≤ _
    rw [h3, g3]
    split at e1 <;> split at e2 <;> omega
  · rw [rel_D4]
    show mx a b + mx c d + (mx (a - q.a) (b - q.b) + mx (c - q.c) (d - q.d)) = _
    rw [h2, g2, h3, g3]
    omega
/-! ### the fold for the best -/
def minF {α : Type} (v : α → Option Int) : Option Int → List α → Option Int
  | b, [] => b
  | b, p :: ps => minF v (match v p with
    | none => b
    | some x => some (mtMin b x)) ps
theorem minF_none {α : Type} (v : α → Option Int) : ∀ (ps : List α) (b : Option Int), (∀ p ∈ ps, v p = none) → minF v b ps = b
  | [], _, _ => rfl
  | p :: ps, b, h => by
    unfold minF
    rw [h p List.mem_cons_self]
    exact minF_none v ps b fun q hq => h q (List.mem_cons_of_mem _ hq)
theorem minF_some {α : Type} (v : α → Option Int) (m : Int) : ∀ (ps : List α) (b : Option Int), (∀ x, b = some x → m ≤ x) → (∀ p ∈ ps, ∀ x, v p = some x → m ≤ x) → (b = some m ∨ ∃ p ∈ ps, v p = some m) → minF v b ps = some m
  | [], b, _, _, h => by
    rcases h with h | ⟨p, hp, _⟩
    · exact h
    · cases hp
  | p :: ps, b, hb, hv, h => by
    unfold minF
    refine minF_some v m ps _ (fun x hx => ?_) (fun q hq => hv q (List.mem_cons_of_mem _ hq)) ?_
    · split at hx
      · exact hb x hx
      · next y hy =>
        cases hx
        have h1 := hv p List.mem_cons_self y hy
        unfold mtMin
        split
        · exact h1
        · split
          · exact h1
          · exact hb _ rfl
    · rcases h with h | ⟨q, hq, h⟩
      · left
        rw [h]
        split
        · rfl
        · next y hy =>
          have h1 := hv p List.mem_cons_self y hy
          show some (if y < m then y else m) = some m
          rw [if_neg (by omega)]
      · rcases List.mem_cons.mp hq with rfl | hq
        · left
          rw [h]
          cases b with
          | none => rfl
          | some y =>
            have := hb y rfl
            show some (if m < y then m else y) = some m
            split
            · rfl
            · congr 1; omega
        · exact .inr ⟨q, hq, h⟩
end Mv

/-! part T9 -/
set_option maxHeartbeats 1000000
namespace Mv
open PySem PySem.Spec L2

/-! ### _law_meet, of two floods -/
theorem foldO_total {α β : Type} {f : β → α → Option β} : ∀ (as : List α) (b : β), (∀ a ∈ as, ∀ b, ∃ b', f b a = some b') → ∃ r, foldO f as b = some r
  | [], b, _ => ⟨b, rfl⟩
  | a :: as, b, h => by
    obtain ⟨b', e⟩ := h a List.mem_cons_self b
    obtain ⟨r, e2⟩ := foldO_total as b' fun c hc => h c (List.mem_cons_of_mem _ hc)
    exact ⟨r, by unfold foldO; rw [e]; exact e2⟩
section
variable {n : Nat} {s t : Sd}
def vM (n : Nat) (s t : Sd) (p : Q4 × Int × Int) : Option Int := match lookE ((Lq n).map (rE t)) (sK (slnt s p.1)) with
  | none => none
  | some (lf, _) => some (p.2.1 + lf)
theorem own_look (F : Fl n) {p : Q4 × Int × Int} (hp : p ∈ Lq n) : ∃ c, lookE ((Lq n).map (rE s)) (sK (slnt s p.1)) = some (p.2.1, c) ∧ small c = true := by
  obtain ⟨h1, h2, h3, _⟩ := F.entry hp
  obtain ⟨c, hc⟩ := F.at_ h1 (by omega)
  refine ⟨c, by rw [look_sim, hc, h2], (F.look hc).2.2.2⟩
theorem best_step (F : Fl n) {p : Q4 × Int × Int} (hp : p ∈ Lq n) (b : Option Int) : mtBest ((Lq n).map (rE s)) ((Lq n).map (rE t)) b (rE s p) = some (match vM n s t p with
  | none => b
  | some x => some (mtMin b x)) := by
  obtain ⟨c, hc, _⟩ := own_look (s := s) F hp
  unfold mtBest vM
  rw [show keyT (rE s p).1 = some (sK (slnt s p.1)) from keyT_sD _]
  dsimp only
  rw [hc]
  cases lookE ((Lq n).map (rE t)) (sK (slnt s p.1)) with
  | none => rfl
  | some lf => obtain ⟨lf, cf⟩ := lf; rfl
theorem best_fold (F : Fl n) : ∀ (ps : List (Q4 × Int × Int)) (b : Option Int), (∀ p ∈ ps, p ∈ Lq n) → foldO (mtBest ((Lq n).map (rE s)) ((Lq n).map (rE t))) (ps.map (rE s)) b = some (minF (vM n s t) b ps)
  | [], _, _ => rfl
  | p :: ps, b, h => by
    rw [List.map_cons]
    unfold foldO minF
    rw [best_step F (h p List.mem_cons_self)]
    exact best_fold F ps _ fun q hq => h q (List.mem_cons_of_mem _ hq)
theorem nonempty (F : Fl n) : ∃ p ps, Lq n = p :: ps := by
  obtain ⟨c, hc⟩ := F.at_ (q := q0) rfl (by show (0 : Int) ≤ _; omega)
  cases h : Lq n with
  | nil => rw [h] at hc; cases hc
  | cons p ps => exact ⟨p, ps, rfl⟩
theorem lim_ok (F : Fl n) (s : Sd) : Nat.ble ((Lq n).map (rE s)).length lim = true := by
  rw [List.length_map]
  exact Nat.ble_eq_true_of_le (Nat.le_trans F.len (by decide))
theorem meet_no (F : Fl n) (h : ∀ q, pairB q = true → t ≠ slnt s q) : meetD ((Lq n).map (rE s)) ((Lq n).map (rE t)) = some .none := by
  unfold meetD
  rw [lim_ok F, best_fold F _ _ fun p hp => hp, minF_none]
  intro p hp
  unfold vM
  cases hl : lookE ((Lq n).map (rE t)) (sK (slnt s p.1)) with
  | none => rfl
  | some lf =>
    obtain ⟨l, c⟩ := lf
    obtain ⟨q, hq, h1, _⟩ := F.from t (slnt s p.1) hl
    exfalso
    refine h (cmp p.1 (inv q)) (pair_cmp (F.entry hp).1 (pair_inv h1)) ?_
    rw [← slnt_cmp, hq, slnt_cmp, cmp_inv]
    exact (slnt_0 t).symm
theorem meet_yes (F : Fl n) (hn : n ≤ 3) {q : Q4} (h : t = slnt s q) (hp : pairB q = true) (hd : D4 q ≤ 2 * (n : Int)) : ∃ m, meetD ((Lq n).map (rE s)) ((Lq n).map (rE t)) = some (.tuple [.int (D4 q), .int m]) := by
  have val : ∀ {r : Q4}, pairB r = true → D4 (cmp (inv q) r) ≤ (n : Nat) → ∃ c, lookE ((Lq n).map (rE t)) (sK (slnt s r)) = some (D4 (cmp (inv q) r), c) := fun {r} h1 h2 => by
    rw [slnt_rel h r, look_sim]
    exact F.at_ (pair_cmp (pair_inv hp) h1) h2
  have hbest : minF (vM n s t) none (Lq n) = some (D4 q) := by
    refine minF_some _ _ _ _ (fun x hx => by cases hx) (fun p hp' x hx => ?_) (.inr ?_)
    · unfold vM at hx
      split at hx
      · cases hx
      · next lf c hl =>
        cases hx
        obtain ⟨r, hr, h1, h2, _⟩ := F.from t (slnt s p.1) hl
        have e := (F.entry hp').2.1
        rw [slnt_rel h p.1] at hr
        have hr' := slnt_inj hr
        have := tri (q := q) (r := p.1)
        rw [hr', h2] at this
        omega
    · obtain ⟨r, h1, h2, h3, h4⟩ := mid hp hn hd
      obtain ⟨c, hc⟩ := F.at_ h1 h2
      have hm : ∃ p ∈ Lq n, p.1 = r := by
        unfold lookQ at hc
        rw [Option.map_eq_some_iff] at hc
        obtain ⟨p, hp1, _⟩ := hc
        exact ⟨p, List.mem_of_find?_eq_some hp1, by simpa using List.find?_some hp1⟩
      obtain ⟨p, hp1, rfl⟩ := hm
      refine ⟨p, hp1, ?_⟩
      obtain ⟨c', hc'⟩ := val h1 h3
      unfold vM
      rw [hc']
      have e := (F.entry hp1).2.1
      show some (p.2.1 + D4 (cmp (inv q) p.1)) = _
      rw [← e, h4]
  unfold meetD
  rw [lim_ok F, best_fold F _ _ fun p hp => hp, hbest]
  dsimp only
  obtain ⟨p0, ps0, hne⟩ := nonempty F
  have hmax : ∃ deep, maxL (((Lq n).map (rE s)).map (·.2.1)) = some deep := by
    rw [hne]
    exact ⟨_, rfl⟩
  obtain ⟨deep, hdeep⟩ := hmax
  rw [hdeep]
  dsimp only
  obtain ⟨m, hm⟩ := foldO_total (f := mtMany ((Lq n).map (rE s)) ((Lq n).map (rE t)) (if D4 q < deep then D4 q else deep) (D4 q)) ((Lq n).map (rE s)) (0 : Int) (fun a ha b => by
    obtain ⟨p, hp', rfl⟩ := List.mem_map.mp ha
    obtain ⟨c, hc, hs⟩ := own_look (s := s) F hp'
    unfold mtMany
    rw [show keyT (rE s p).1 = some (sK (slnt s p.1)) from keyT_sD _]
    dsimp only
    rw [hc]
    dsimp only
    split
    · exact ⟨_, rfl⟩
    · split
      · exact ⟨_, rfl⟩
      · split
        · exact ⟨_, rfl⟩
        · rw [hs]; exact ⟨_, rfl⟩)
  rw [hm]
  exact ⟨m, rfl⟩
end
end Mv

/-! part T10 -/
set_option maxHeartbeats 1000000
namespace Mv
open PySem PySem.Spec L2

/-! ### the program's defs on stands -/
def pm (z : Int) : Prop := z = 1 ∨ z = -1
structure Good (s : Sd) : Prop where
  a : pm s.f.a
  b : pm s.f.b
  c : pm s.f.c
def lV (v : V3) : D := .list [.int v.a, .int v.b, .int v.c]
def lP (p : Po) : D := .list [.int (p.i : Nat), .int (p.j : Nat), .int (p.k : Nat)]
def lsD (s : Sd) : D := .list [lP s.p, lV s.x, lV s.y, lV s.f]
theorem lists_ev (s : Sd) : F_law_lists [sD' s] = some (lsD s) := by
  obtain ⟨p, x, y, f⟩ := s
  cases p <;> kernel_rfl
theorem sure1 {s : Sd} (g : Good s) : F_sure_stand [sD' s] = some (sD' s) ∧ F_sure_stand [lsD s] = some (sD' s) := by
  obtain ⟨p, x, y, ⟨f0, f1, f2⟩⟩ := s
  obtain ⟨g0, g1, g2⟩ := g
  have g0 : f0 = 1 ∨ f0 = -1 := g0
  have g1 : f1 = 1 ∨ f1 = -1 := g1
  have g2 : f2 = 1 ∨ f2 = -1 := g2
  rcases g0 with rfl | rfl <;> rcases g1 with rfl | rfl <;> rcases g2 with rfl | rfl <;> cases p <;> exact ⟨by kernel_rfl, by kernel_rfl⟩
/-- what tells a stand -/
def Tells (d : D) (s : Sd) : Prop := F_sure_stand [d] = some (sD' s)
theorem aE_ev {op : List D → Option D} {h : Ev → Option (List D)} {ρ : Ev} {ds : List D} {d : D} (h1 : h ρ = some ds) (h2 : op ds = some d) : aE op h ρ = some d := by
  unfold aE
  rw [h1]
  exact h2
theorem consA_ev {f : Ev → Option D} {h : Ev → Option (List D)} {ρ : Ev} {d : D} {ds : List D} (h1 : f ρ = some d) (h2 : h ρ = some ds) : consA f h ρ = some (d :: ds) := by
  unfold consA
  rw [h1]
  dsimp only
  rw [h2]
theorem both_ev {x y : D} {s t : Sd} (h1 : Tells x s) (h2 : Tells y t) : F_both_stands [x, y] = some (.tuple [sD' s, sD' t]) := by
  unfold F_both_stands
  rw [run2]
  unfold B_both_stands
  exact end_rt (aE_ev (ds := [sD' s, sD' t]) (consA_ev (d := sD' s) h1 (consA_ev (d := sD' t) h2 rfl)) rfl)
theorem bar_vals (s t : Sd) : barB s t = "shape" ∨ barB s t = "upright" ∨ barB s t = "half" ∨ barB s t = "odd" ∨ barB s t = "way" ∨ barB s t = "fronts" ∨ barB s t = "" := by
  unfold barB
  rcases hs_vals s t with h | h | h | h <;> rw [h] <;> cases !(pairB (qS s t)) <;> cases !(decide ((slnt s (qS s t)).p = t.p)) <;> cases eqV (slnt s (qS s t)).f t.f <;> decide
theorem dNe_bar (s t : Sd) : dNe (.str (barB s t)) (.str "") = some (.bool (!(decide (barB s t = "")))) := by
  rcases bar_vals s t with h | h | h | h | h | h | h <;> rw [h] <;> kernel_rfl
theorem dEq_bar (s t : Sd) : dEq (.str (barB s t)) (.str "") = some (.bool (decide (barB s t = ""))) := by
  rcases bar_vals s t with h | h | h | h | h | h | h <;> rw [h] <;> kernel_rfl
section
variable {x y : D} {s t : Sd}
theorem R_sure_ev (h1 : Tells x s) (h2 : Tells y t) : R_sure [x, y] = !(decide (barB s t = "")) := by
  unfold R_sure
  dsimp only
  rw [both_ev h1 h2]
  dsimp only
  rw [bar_in_ev]
  dsimp only
  rw [dNe_bar]
  cases decide (barB s t = "") <;> rfl
theorem R_why_ev (h1 : Tells x s) (h2 : Tells y t) : R_why [x, y] = decide (barB s t = "") := by
  unfold R_why
  dsimp only
  rw [both_ev h1 h2]
  dsimp only
  rw [bar_in_ev]
  dsimp only
  rw [dEq_bar]
  cases decide (barB s t = "") <;> rfl
theorem can_turn_ev (h1 : Tells x s) (h2 : Tells y t) : F_can_turn_to [x, y] = some (.bool (decide (barB s t = ""))) := by
  unfold F_can_turn_to
  rw [run2]
  unfold B_can_turn_to
  refine end_nx (ρ' := [some x, some y, some (sD' s), some (sD' t)]) ?_ (end_rt ?_)
  · unfold atE
    rw [show aE F_both_stands (consA (vE 0) (consA (vE 1) nilA)) (padE [x, y] 4) = _ from both_ev h1 h2]
    rfl
  · rw [o2_ev (show aE F_bar_in (consA (vE 2) (consA (vE 3) nilA)) [some x, some y, some (sD' s), some (sD' t)] = _ from bar_in_ev s t) rfl]
    exact dEq_bar s t
theorem sure_turned_ev (h1 : Tells x s) (h2 : Tells y t) (hb : barB s t = "") : F_sure_turned [x, y] = some (.tuple [sD' s, sD' t]) := by
  unfold F_sure_turned
  rw [run2]
  unfold B_sure_turned
  refine end_nx (ρ' := [some x, some y, some (sD' s), some (sD' t)]) ?_ (end_nx (ρ' := [some x, some y, some (sD' s), some (sD' t)]) ?_ (end_rt rfl))
  · unfold atE
    rw [show aE F_both_stands (consA (vE 0) (consA (vE 1) nilA)) (padE [x, y] 4) = _ from both_ev h1 h2]
    rfl
  · unfold isE
    rw [toB_ev (b := false) (by
      rw [o2_ev (show aE F_bar_in (consA (vE 2) (consA (vE 3) nilA)) [some x, some y, some (sD' s), some (sD' t)] = _ from bar_in_ev s t) rfl]
      exact (dNe_bar s t).trans (by rw [hb]; rfl))]
    rfl
def ab (z : Int) : Int := if z < 0 then -z else z
def mxa (a b : Int) : Int := if ab b > ab a then ab b else ab a
theorem mxa_eq (a b : Int) : mxa a b = mx a b := by
  have ha : ab a = a.natAbs := by unfold ab; split <;> omega
  have hb : ab b = b.natAbs := by unfold ab; split <;> omega
  unfold mxa mx
  rw [ha, hb]
theorem by_slants_ev (q : Q4) : F_turns_by_slants [qD q] = some (.int (D4 q)) := by
  have e : F_turns_by_slants [qD q] = some (.int (mxa q.a q.b + mxa q.c q.d)) := by kernel_rfl
  rw [e, mxa_eq, mxa_eq]
  rfl
theorem fewest_in_ev (s t : Sd) : F_fewest_turned_in [sD' s, sD' t] = some (.int (D4 (qS s t))) := by
  unfold F_fewest_turned_in
  rw [run2]
  unfold B_fewest_turned_in
  exact end_rt (aE_ev (ds := [qD (qS s t)]) (consA_ev (d := qD (qS s t)) (slants_ev s t) rfl) (by_slants_ev _))
theorem fewest_ev (h1 : Tells x s) (h2 : Tells y t) (hb : barB s t = "") : F_fewest_turns [x, y] = some (.int (D4 (qS s t))) := by
  unfold F_fewest_turns
  rw [run2]
  unfold B_fewest_turns
  refine end_nx (ρ' := [some x, some y, some (sD' s), some (sD' t)]) ?_ (end_rt (fewest_in_ev s t))
  unfold atE
  rw [show aE F_sure_turned (consA (vE 0) (consA (vE 1) nilA)) (padE [x, y] 4) = _ from sure_turned_ev h1 h2 hb]
  rfl
theorem plan_in_ev {d : D} (s t : Sd) (ht : F_turns_told [qD (qS s t)] = some d) : F_turn_plan_in [sD' s, sD' t] = some d := by
  unfold F_turn_plan_in
  rw [run2]
  exact end_rt (aE_ev (ds := [qD (qS s t)]) (consA_ev (d := qD (qS s t)) (slants_ev s t) rfl) ht)
theorem turn_plan_ev {d : D} (h1 : Tells x s) (h2 : Tells y t) (hb : barB s t = "") (hd : D4 (qS s t) ≤ 2000) (ht : F_turns_told [qD (qS s t)] = some d) : F_turn_plan [x, y] = some d := by
  unfold F_turn_plan
  rw [run2]
  unfold B_turn_plan
  refine end_nx (ρ' := [some x, some y, some (sD' s), some (sD' t)]) ?_ (end_nx (ρ' := [some x, some y, some (sD' s), some (sD' t)]) ?_ (end_rt ?_))
  · unfold atE
    rw [show aE F_sure_turned (consA (vE 0) (consA (vE 1) nilA)) (padE [x, y] 4) = _ from sure_turned_ev h1 h2 hb]
    rfl
  · unfold isE
    rw [toB_ev (b := false) (by
      rw [o2_ev (show aE F_fewest_turned_in (consA (vE 2) (consA (vE 3) nilA)) [some x, some y, some (sD' s), some (sD' t)] = _ from fewest_in_ev s t) rfl]
      show some (PyData.bool (decide ((2000 : Int) < D4 (qS s t)))) = _
      rw [decide_eq_false (by omega)])]
    rfl
  · exact plan_in_ev s t ht
theorem why_ev (h1 : Tells x s) (h2 : Tells y t) (hb : barB s t ≠ "") : F_why_not_turned [x, y] = some (.str (barB s t)) := by
  unfold F_why_not_turned
  rw [run2]
  unfold B_why_not_turned
  refine end_nx (ρ' := [some x, some y, none, some (sD' s), some (sD' t)]) ?_ (end_nx (ρ' := [some x, some y, some (.str (barB s t)), some (sD' s), some (sD' t)]) ?_ (end_nx (ρ' := [some x, some y, some (.str (barB s t)), some (sD' s), some (sD' t)]) ?_ (end_rt rfl)))
  · unfold atE
    rw [show aE F_both_stands (consA (vE 0) (consA (vE 1) nilA)) (padE [x, y] 5) = _ from both_ev h1 h2]
    rfl
  · unfold asE
    rw [show aE F_bar_in (consA (vE 3) (consA (vE 4) nilA)) [some x, some y, none, some (sD' s), some (sD' t)] = _ from bar_in_ev s t]
    rfl
  · unfold isE
    rw [toB_ev (b := false) ((dEq_bar s t).trans (by rw [decide_eq_false hb]))]
    rfl
/-! ### what is heard -/
theorem heard_bad (h1 : Tells x s) (h2 : Tells y t) (hb : barB s t ≠ "") : F_law_heard [.int 0, x, y] = some canNotD ∧ F_law_heard [.int 1, x, y] = some canNotD ∧ F_law_heard [.int 2, x, y] = some canNotD ∧ F_law_heard [.int 3, x, y] = some (.str (barB s t)) := by
  have e : R_sure [x, y] = true := by rw [R_sure_ev h1 h2, decide_eq_false hb]; rfl
  have e2 : R_why [x, y] = false := by rw [R_why_ev h1 h2, decide_eq_false hb]
  refine ⟨?_, ?_, ?_, ?_⟩
  · show heardR F_fewest_turns R_sure [x, y] = _
    unfold heardR; rw [e]
  · show heardR F_first_turns R_sure [x, y] = _
    unfold heardR; rw [e]
  · show heardR F_turn_plan R_sure [x, y] = _
    unfold heardR; rw [e]
  · show heardR F_why_not_turned R_why [x, y] = _
    unfold heardR; rw [e2]
    exact why_ev h1 h2 hb
theorem heard_good (h1 : Tells x s) (h2 : Tells y t) (hb : barB s t = "") : F_law_heard [.int 0, x, y] = some (.int (D4 (qS s t))) ∧ F_law_heard [.int 1, x, y] = F_first_turns [x, y] ∧ F_law_heard [.int 2, x, y] = F_turn_plan [x, y] ∧ F_law_heard [.int 3, x, y] = some canNotD := by
  have e : R_sure [x, y] = false := by rw [R_sure_ev h1 h2, decide_eq_true hb]; rfl
  have e2 : R_why [x, y] = true := by rw [R_why_ev h1 h2, decide_eq_true hb]
  refine ⟨?_, ?_, ?_, ?_⟩
  · show heardR F_fewest_turns R_sure [x, y] = _
    unfold heardR; rw [e]
    exact fewest_ev h1 h2 hb
  · show heardR F_first_turns R_sure [x, y] = _
    unfold heardR; rw [e]
  · show heardR F_turn_plan R_sure [x, y] = _
    unfold heardR; rw [e]
  · show heardR F_why_not_turned R_why [x, y] = _
    unfold heardR; rw [e2]
end
end Mv

/-! part T11 -/
set_option maxHeartbeats 1000000
namespace Mv
open PySem PySem.Spec L2

/-! ### rows of turns -/
def run (s : Sd) (ms : List Nat) : Sd := ms.foldl tn s
theorem moved_ev (s : Sd) : ∀ m, m < 8 → F_moved_in [sD' s, mvD m] = some (sD' (tn s m)) := by
  have key : ∀ m, m < 8 → F_moved_in [sD' s, mvD m] = some (sD' { tn s m with f := s.f.upd (if sgn m = 1 then s.p.j else s.p.i) (fun z => z + -2 * z) }) := by
    obtain ⟨p, ⟨x0, x1, x2⟩, ⟨y0, y1, y2⟩, ⟨f0, f1, f2⟩⟩ := s
    intro m hm
    match m, hm with
    | 0, _ => cases p <;> kernel_rfl
    | 1, _ => cases p <;> kernel_rfl
    | 2, _ => cases p <;> kernel_rfl
    | 3, _ => cases p <;> kernel_rfl
    | 4, _ => cases p <;> kernel_rfl
    | 5, _ => cases p <;> kernel_rfl
    | 6, _ => cases p <;> kernel_rfl
    | 7, _ => cases p <;> kernel_rfl
  intro m hm
  rw [key m hm, show (fun z : Int => z + -2 * z) = (- ·) from funext fun z => by omega]
  rfl
theorem pm_neg {z : Int} (h : pm z) : pm (-z) := by
  rcases h with rfl | rfl
  · exact .inr rfl
  · exact .inl rfl
theorem good_upd {f : V3} (ha : pm f.a) (hb : pm f.b) (hc : pm f.c) (n : Nat) : pm (f.upd n (- ·)).a ∧ pm (f.upd n (- ·)).b ∧ pm (f.upd n (- ·)).c := by
  match n with
  | 0 => exact ⟨pm_neg ha, hb, hc⟩
  | 1 => exact ⟨ha, pm_neg hb, hc⟩
  | n + 2 => exact ⟨ha, hb, pm_neg hc⟩
theorem good_tn {s : Sd} (g : Good s) (m : Nat) : Good (tn s m) := by
  obtain ⟨h1, h2, h3⟩ := good_upd g.a g.b g.c (if sgn m = 1 then s.p.j else s.p.i)
  exact ⟨h1, h2, h3⟩
theorem good_tp {s : Sd} (g : Good s) (w : Nat) : Good (tp s w) := by
  unfold tp
  split
  · obtain ⟨h1, h2, h3⟩ := good_upd g.a g.b g.c (if w = 0 then s.p.i else s.p.k)
    exact ⟨h1, h2, h3⟩
  · obtain ⟨h1, h2, h3⟩ := good_upd g.a g.b g.c (if w = 1 then s.p.j else s.p.k)
    exact ⟨h1, h2, h3⟩
theorem good_run : ∀ (ms : List Nat) {s : Sd}, Good s → Good (run s ms)
  | [], _, g => g
  | m :: ms, _, g => good_run ms (good_tn g m)
def qrun (ms : List Nat) : Q4 := ms.foldl (fun r m => cmp r (mv m)) q0
theorem run_slnt (s : Sd) : ∀ (ms : List Nat) (q : Q4), (∀ m ∈ ms, m < 8) → run (slnt s q) ms = slnt s (ms.foldl (fun r m => cmp r (mv m)) q)
  | [], _, _ => rfl
  | m :: ms, q, h => by
    show run (tn (slnt s q) m) ms = _
    rw [tn_slnt _ m (h m List.mem_cons_self), slnt_cmp]
    exact run_slnt s ms _ fun k hk => h k (List.mem_cons_of_mem _ hk)
theorem run_q (s : Sd) {ms : List Nat} (h : ∀ m ∈ ms, m < 8) : run s ms = slnt s (qrun ms) := by
  have := run_slnt s ms q0 h
  rwa [show slnt s q0 = s from slnt_0 s] at this
def rowD (ms : List Nat) : D := .tuple (ms.map mvD)
theorem loop_turns {stepF : List D → Option D} (hs : ∀ s m, m < 8 → stepF [sD' s, mvD m] = some (sD' (tn s m))) : ∀ (ms : List Nat) (s : Sd) (W x : Option D), (∀ m ∈ ms, m < 8) →
    ∃ y, loopE (.one 2) (asE 0 (aE stepF (consA (vE 0) (consA (vE 2) nilA)))) (ms.map mvD) [some (sD' s), W, x] = some (.nx [some (sD' (run s ms)), W, y])
  | [], _, _, x, _ => ⟨x, rfl⟩
  | m :: ms, s, W, x, h => by
    obtain ⟨y, hy⟩ := loop_turns hs ms (tn s m) W (some (mvD m)) fun k hk => h k (List.mem_cons_of_mem _ hk)
    refine ⟨y, ?_⟩
    rw [List.map_cons]
    unfold loopE
    have e : asE 0 (aE stepF (consA (vE 0) (consA (vE 2) nilA))) [some (sD' s), W, some (mvD m)] = some (.nx [some (sD' (tn s m)), W, some (mvD m)]) := by
      unfold asE
      rw [show aE stepF (consA (vE 0) (consA (vE 2) nilA)) [some (sD' s), W, some (mvD m)] = _ from hs s m (h m List.mem_cons_self)]
      rfl
    show (match asE 0 (aE stepF (consA (vE 0) (consA (vE 2) nilA))) [some (sD' s), W, some (mvD m)] with | some (.nx ρ2) => _ | r => r) = _
    rw [e]
    exact hy
theorem law_behind_ev (s : Sd) {ms : List Nat} (h : ∀ m ∈ ms, m < 8) : F_law_behind [sD' s, rowD ms] = some (sD' (run s ms)) := by
  unfold F_law_behind
  rw [run2]
  obtain ⟨y, hy⟩ := loop_turns (stepF := F_law_step) (fun s m hm => step_turn s m hm) ms s (some (rowD ms)) none h
  exact end_nx hy (end_rt rfl)
theorem behind_in_ev (s : Sd) {ms : List Nat} (h : ∀ m ∈ ms, m < 8) : F_behind_in [sD' s, rowD ms] = some (sD' (run s ms)) := by
  unfold F_behind_in
  rw [run2]
  obtain ⟨y, hy⟩ := loop_turns (stepF := F_moved_in) (fun s m hm => moved_ev s m hm) ms s (some (rowD ms)) none h
  exact end_nx hy (end_rt rfl)
theorem is_move_ev : ∀ m, m < 8 → F_is_move [mvD m] = some (.bool true) := by
  intro m hm
  match m, hm with
  | 0, _ => kernel_rfl
  | 1, _ => kernel_rfl
  | 2, _ => kernel_rfl
  | 3, _ => kernel_rfl
  | 4, _ => kernel_rfl
  | 5, _ => kernel_rfl
  | 6, _ => kernel_rfl
  | 7, _ => kernel_rfl
theorem allD_true {α : Type} : ∀ as : List α, allD [.list (as.map fun _ => PyData.bool true)] = some (.bool true) := by
  intro as
  have : boolsD (as.map fun _ => PyData.bool true) = some (as.map fun _ => true) := by
    induction as with
    | nil => rfl
    | cons a as ih =>
      rw [List.map_cons, List.map_cons]
      unfold boolsD
      rw [ih]
  unfold allD
  dsimp only
  rw [this]
  dsimp only
  congr 2
  induction as with
  | nil => rfl
  | cons a as ih => rw [List.map_cons, List.all_cons]; exact ih (by
      unfold boolsD at this
      rw [List.map_cons] at this
      dsimp only at this
      revert this
      cases boolsD (as.map fun _ => PyData.bool true) with
      | none => intro z; cases z
      | some bs => intro z; rw [List.map_cons] at z; have := Option.some.inj z; injection this with _ h2; rw [h2])
theorem row_ok_gen {fe : Ev → Option D} {ms : List Nat} (hl : ms.length ≤ 2000) (h : ∀ m ∈ ms, fe [some (rowD ms), some (mvD m)] = some (.bool true)) : compE (seqE (vE 0)) (.one 1) ([1]) yesB fe [some (rowD ms), none] = some (.list (ms.map fun _ => PyData.bool true)) := by
  unfold compE
  show (match Nat.ble (ms.map mvD).length lim with | true => _ | false => none) = _
  rw [List.length_map, Nat.ble_eq_true_of_le (Nat.le_trans hl (by decide))]
  dsimp only
  rw [compL_map mvD (fun _ => PyData.bool true) ms fun m hm => ⟨_, rfl, rfl, h m hm⟩]
theorem row_in_ev {ms : List Nat} (hl : ms.length ≤ 2000) (h : ∀ m ∈ ms, m < 8) : F_is_row_in [rowD ms] = some (.bool true) := by
  unfold F_is_row_in
  rw [run1]
  refine end_rt (andV_ev true true (by rfl) (aE_ev (ds := [.list (ms.map fun _ => PyData.bool true)]) (consA_ev ?_ rfl) (allD_true ms)))
  exact row_ok_gen hl fun m hm => is_move_ev m (h m hm)
theorem are_turns_ev {ms : List Nat} (hl : ms.length ≤ 2000) (h : ∀ m ∈ ms, m < 8) : F_are_turns [rowD ms] = some (.bool true) := by
  unfold F_are_turns
  rw [run1]
  exact end_rt (aE_ev (ds := [.list (ms.map fun _ => PyData.bool true)]) (consA_ev (row_ok_gen hl fun m hm => by kernel_rfl) rfl) (allD_true ms))
def eqSd (s t : Sd) : Bool := decide (s.p = t.p) && (eqV s.x t.x && (eqV s.y t.y && (eqV s.f t.f && true)))
theorem dEq_sd (s t : Sd) : dEq (sD' s) (sD' t) = some (.bool (eqSd s t)) := by
  obtain ⟨p, x, y, f⟩ := s
  obtain ⟨p', x', y', f'⟩ := t
  cases p <;> cases p' <;> kernel_rfl
theorem eqSd_iff (s t : Sd) : eqSd s t = decide (s = t) := by
  rw [Bool.eq_iff_iff]
  unfold eqSd
  simp only [Bool.and_eq_true, decide_eq_true_eq, eqV_iff, Bool.and_true]
  exact ⟨fun ⟨h1, h2, h3, h4⟩ => Sd.ext' h1 h2 h3 h4, fun h => by rw [h]; exact ⟨rfl, rfl, rfl, rfl⟩⟩
theorem run3 {N : Nat} {fb : Ev → Option Out} {a b c : D} : runF 3 N fb [a, b, c] = endD (fb (padE [a, b, c] N)) := rfl
theorem plan_in_is (s t : Sd) {ms : List Nat} (hl : ms.length ≤ 2000) (h : ∀ m ∈ ms, m < 8) : F_is_turn_plan_in [sD' s, sD' t, rowD ms] = some (.bool (decide ((ms.length : Int) = D4 (qS s t)) && decide (run s ms = t))) := by
  unfold F_is_turn_plan_in
  rw [run3]
  unfold B_is_turn_plan_in
  refine end_nx (ρ' := [some (sD' s), some (sD' t), some (rowD ms)]) ?_ (end_rt (andV_ev _ _ ?_ ?_))
  · unfold isE
    have e1 : notB (toB (aE F_is_row_in (consA (vE 2) nilA))) (padE [sD' s, sD' t, rowD ms] 3) = some false := by
      unfold notB
      rw [show toB (aE F_is_row_in (consA (vE 2) nilA)) (padE [sD' s, sD' t, rowD ms] 3) = some true from toB_ev (row_in_ev hl h)]
      rfl
    have e2 : toB (o2 dGt (aE lenD (consA (vE 2) nilA)) (cE (.int 2000))) (padE [sD' s, sD' t, rowD ms] 3) = some false := by
      refine toB_ev ?_
      show some (PyData.bool (decide ((2000 : Int) < ((ms.map mvD).length : Int)))) = _
      rw [List.length_map, decide_eq_false (by omega)]
    have e3 : notB (toB (aE F_are_turns (consA (vE 2) nilA))) (padE [sD' s, sD' t, rowD ms] 3) = some false := by
      unfold notB
      rw [show toB (aE F_are_turns (consA (vE 2) nilA)) (padE [sD' s, sD' t, rowD ms] 3) = some true from toB_ev (are_turns_ev hl h)]
      rfl
    rw [or_ev false false e1 (or_ev false false e2 e3)]
    rfl
  · rw [o2_ev (x := .int (ms.length : Int)) (y := .int (D4 (qS s t))) (by show some (PyData.int ((ms.map mvD).length : Int)) = _; rw [List.length_map]) (fewest_in_ev s t)]
    exact dEq_int _ _
  · rw [o2_ev (x := sD' (run s ms)) (y := sD' t) (behind_in_ev s h) rfl, dEq_sd, eqSd_iff]
theorem is_plan_ev {x y : D} {s t : Sd} (h1 : Tells x s) (h2 : Tells y t) {ms : List Nat} (hl : ms.length ≤ 2000) (h : ∀ m ∈ ms, m < 8) : F_is_turn_plan [x, y, rowD ms] = some (.bool (decide (barB s t = "") && (decide ((ms.length : Int) = D4 (qS s t)) && decide (run s ms = t)))) := by
  unfold F_is_turn_plan
  rw [run3]
  unfold B_is_turn_plan
  refine end_nx (ρ' := [some x, some y, some (rowD ms), some (sD' s), some (sD' t)]) ?_ (end_rt (andV_ev _ _ ?_ (plan_in_is s t hl h)))
  · unfold atE
    rw [show aE F_both_stands (consA (vE 0) (consA (vE 1) nilA)) (padE [x, y, rowD ms] 5) = _ from both_ev h1 h2]
    rfl
  · rw [o2_ev (show aE F_bar_in (consA (vE 3) (consA (vE 4) nilA)) [some x, some y, some (rowD ms), some (sD' s), some (sD' t)] = _ from bar_in_ev s t) rfl]
    exact dEq_bar s t
/-! ### turns told, by the kernel -/
def tellB (q : Q4) : Bool := match F_turns_told [qD q] with
  | some (.tuple ds) => (match mvsOf ds with
    | some ms => decide ((ms.length : Int) = D4 q) && decide (qrun ms = q)
    | none => false)
  | _ => false
def tellAll : Bool := (rng 6).all fun a => (rng 6).all fun b => !(decide ((a - b) % 2 = 0)) || (rng 6).all fun c => (rng 6).all fun d => !(decide ((c - d) % 2 = 0) && decide (D4 ⟨a, b, c, d⟩ ≤ 6)) || tellB ⟨a, b, c, d⟩
end Mv

/-! part T12 -/
set_option maxHeartbeats 1000000
namespace Mv
open PySem PySem.Spec L2

/-! ### the turns that are told, tried by the kernel for every slant that needs at most six -/
def tellC (a b : Int) : Bool := (rng 6).all fun c => (rng 6).all fun d => !(decide ((c - d) % 2 = 0) && decide (D4 ⟨a, b, c, d⟩ ≤ 6)) || tellB ⟨a, b, c, d⟩
def tellA (a : Int) : Bool := (rng 6).all fun b => !(decide ((a - b) % 2 = 0)) || tellC a b

theorem tell_n6 : tellA (-6) = true := by decide +kernel
theorem tell_n5 : tellA (-5) = true := by decide +kernel
theorem tell_n4 : tellA (-4) = true := by decide +kernel
theorem tell_n3 : tellA (-3) = true := by decide +kernel
theorem tell_n2_n6 : tellC (-2) (-6) = true := by decide +kernel
theorem tell_n2_n4 : tellC (-2) (-4) = true := by decide +kernel
theorem tell_n2_n2 : tellC (-2) (-2) = true := by decide +kernel
theorem tell_n2_p0 : tellC (-2) (0) = true := by decide +kernel
theorem tell_n2_p2 : tellC (-2) (2) = true := by decide +kernel
theorem tell_n2_p4 : tellC (-2) (4) = true := by decide +kernel
theorem tell_n2_p6 : tellC (-2) (6) = true := by decide +kernel
theorem tell_n1_n5 : tellC (-1) (-5) = true := by decide +kernel
theorem tell_n1_n3 : tellC (-1) (-3) = true := by decide +kernel
theorem tell_n1_n1 : tellC (-1) (-1) = true := by decide +kernel
theorem tell_n1_p1 : tellC (-1) (1) = true := by decide +kernel
theorem tell_n1_p3 : tellC (-1) (3) = true := by decide +kernel
theorem tell_n1_p5 : tellC (-1) (5) = true := by decide +kernel
theorem tell_p0_n6 : tellC (0) (-6) = true := by decide +kernel
theorem tell_p0_n4 : tellC (0) (-4) = true := by decide +kernel
theorem tell_p0_n2 : tellC (0) (-2) = true := by decide +kernel
theorem tell_p0_p0 : tellC (0) (0) = true := by decide +kernel
theorem tell_p0_p2 : tellC (0) (2) = true := by decide +kernel
theorem tell_p0_p4 : tellC (0) (4) = true := by decide +kernel
theorem tell_p0_p6 : tellC (0) (6) = true := by decide +kernel
theorem tell_p1_n5 : tellC (1) (-5) = true := by decide +kernel
theorem tell_p1_n3 : tellC (1) (-3) = true := by decide +kernel
theorem tell_p1_n1 : tellC (1) (-1) = true := by decide +kernel
theorem tell_p1_p1 : tellC (1) (1) = true := by decide +kernel
theorem tell_p1_p3 : tellC (1) (3) = true := by decide +kernel
theorem tell_p1_p5 : tellC (1) (5) = true := by decide +kernel
theorem tell_p2_n6 : tellC (2) (-6) = true := by decide +kernel
theorem tell_p2_n4 : tellC (2) (-4) = true := by decide +kernel
theorem tell_p2_n2 : tellC (2) (-2) = true := by decide +kernel
theorem tell_p2_p0 : tellC (2) (0) = true := by decide +kernel
theorem tell_p2_p2 : tellC (2) (2) = true := by decide +kernel
theorem tell_p2_p4 : tellC (2) (4) = true := by decide +kernel
theorem tell_p2_p6 : tellC (2) (6) = true := by decide +kernel
theorem tell_p3 : tellA (3) = true := by decide +kernel
theorem tell_p4 : tellA (4) = true := by decide +kernel
theorem tell_p5 : tellA (5) = true := by decide +kernel
theorem tell_p6 : tellA (6) = true := by decide +kernel
end Mv

/-! part T13 -/
set_option maxHeartbeats 1000000
namespace Mv
open PySem PySem.Spec L2

theorem int_cases {z : Int} (h1 : -6 ≤ z) (h2 : z ≤ 6) : z = -6 ∨ z = -5 ∨ z = -4 ∨ z = -3 ∨ z = -2 ∨ z = -1 ∨ z = 0 ∨ z = 1 ∨ z = 2 ∨ z = 3 ∨ z = 4 ∨ z = 5 ∨ z = 6 := by omega
theorem tellA_C {a b : Int} (h : tellA a = true) (h1 : -6 ≤ b) (h2 : b ≤ 6) (he : (a - b) % 2 = 0) : tellC a b = true := by
  unfold tellA at h
  have := List.all_eq_true.mp h b (mem_rng (by omega) (by omega))
  rw [decide_eq_true he] at this
  exact this
theorem tell_C {a b : Int} (a1 : -6 ≤ a) (a2 : a ≤ 6) (b1 : -6 ≤ b) (b2 : b ≤ 6) (he : (a - b) % 2 = 0) : tellC a b = true := by
  rcases int_cases a1 a2 with rfl | rfl | rfl | rfl | rfl | rfl | rfl | rfl | rfl | rfl | rfl | rfl | rfl
  · exact tellA_C tell_n6 b1 b2 he
  · exact tellA_C tell_n5 b1 b2 he
  · exact tellA_C tell_n4 b1 b2 he
  · exact tellA_C tell_n3 b1 b2 he
  · rcases int_cases b1 b2 with rfl | rfl | rfl | rfl | rfl | rfl | rfl | rfl | rfl | rfl | rfl | rfl | rfl
    · exact tell_n2_n6
    · exact absurd he (by decide)
    · exact tell_n2_n4
    · exact absurd he (by decide)
    · exact tell_n2_n2
    · exact absurd he (by decide)
    · exact tell_n2_p0
    · exact absurd he (by decide)
    · exact tell_n2_p2
    · exact absurd he (by decide)
    · exact tell_n2_p4
    · exact absurd he (by decide)
    · exact tell_n2_p6
  · rcases int_cases b1 b2 with rfl | rfl | rfl | rfl | rfl | rfl | rfl | rfl | rfl | rfl | rfl | rfl | rfl
    · exact absurd he (by decide)
    · exact tell_n1_n5
    · exact absurd he (by decide)
    · exact tell_n1_n3
    · exact absurd he (by decide)
    · exact tell_n1_n1
    · exact absurd he (by decide)
    · exact tell_n1_p1
    · exact absurd he (by decide)
    · exact tell_n1_p3
    · exact absurd he (by decide)
    · exact tell_n1_p5
    · exact absurd he (by decide)
  · rcases int_cases b1 b2 with rfl | rfl | rfl | rfl | rfl | rfl | rfl | rfl | rfl | rfl | rfl | rfl | rfl
    · exact tell_p0_n6
    · exact absurd he (by decide)
    · exact tell_p0_n4
    · exact absurd he (by decide)
    · exact tell_p0_n2
    · exact absurd he (by decide)
    · exact tell_p0_p0
    · exact absurd he (by decide)
    · exact tell_p0_p2
    · exact absurd he (by decide)
    · exact tell_p0_p4
    · exact absurd he (by decide)
    · exact tell_p0_p6
  · rcases int_cases b1 b2 with rfl | rfl | rfl | rfl | rfl | rfl | rfl | rfl | rfl | rfl | rfl | rfl | rfl
    · exact absurd he (by decide)
    · exact tell_p1_n5
    · exact absurd he (by decide)
    · exact tell_p1_n3
    · exact absurd he (by decide)
    · exact tell_p1_n1
    · exact absurd he (by decide)
    · exact tell_p1_p1
    · exact absurd he (by decide)
    · exact tell_p1_p3
    · exact absurd he (by decide)
    · exact tell_p1_p5
    · exact absurd he (by decide)
  · rcases int_cases b1 b2 with rfl | rfl | rfl | rfl | rfl | rfl | rfl | rfl | rfl | rfl | rfl | rfl | rfl
    · exact tell_p2_n6
    · exact absurd he (by decide)
    · exact tell_p2_n4
    · exact absurd he (by decide)
    · exact tell_p2_n2
    · exact absurd he (by decide)
    · exact tell_p2_p0
    · exact absurd he (by decide)
    · exact tell_p2_p2
    · exact absurd he (by decide)
    · exact tell_p2_p4
    · exact absurd he (by decide)
    · exact tell_p2_p6
  · exact tellA_C tell_p3 b1 b2 he
  · exact tellA_C tell_p4 b1 b2 he
  · exact tellA_C tell_p5 b1 b2 he
  · exact tellA_C tell_p6 b1 b2 he
theorem tell_ok {q : Q4} (hp : pairB q = true) (hd : D4 q ≤ 6) : ∃ ms, F_turns_told [qD q] = some (rowD ms) ∧ (∀ m ∈ ms, m < 8) ∧ (ms.length : Int) = D4 q ∧ qrun ms = q := by
  obtain ⟨a, b, c, d⟩ := q
  have m1 := mx_spec a b
  have m2 := mx_spec c d
  have hd' : mx a b + mx c d ≤ 6 := hd
  have hp' := hp
  unfold pairB at hp'
  simp only [Bool.and_eq_true, decide_eq_true_eq] at hp'
  have h := tell_C (a := a) (b := b) (by omega) (by omega) (by omega) (by omega) hp'.1
  unfold tellC at h
  have h1 := List.all_eq_true.mp h c (mem_rng (by omega) (by omega))
  have h2 := List.all_eq_true.mp h1 d (mem_rng (by omega) (by omega))
  rw [decide_eq_true hp'.2, decide_eq_true hd] at h2
  have h3 : tellB ⟨a, b, c, d⟩ = true := h2
  unfold tellB at h3
  split at h3
  · next ds e =>
    split at h3
    · next ms e2 =>
      obtain ⟨rfl, hlt⟩ := mvsOf_some e2
      simp only [Bool.and_eq_true, decide_eq_true_eq] at h3
      exact ⟨ms, e, hlt, h3⟩
    · cases h3
  · cases h3
/-- the turns that bring q nearer, in the order of the corners -/
def nearer (q : Q4) : List Nat := (List.range 8).filter fun m => decide (D4 (cmp (inv (mv m)) q) < D4 q)
def fewAll : Bool := (rng 4).all fun a => (rng 4).all fun b => !(decide ((a - b) % 2 = 0)) || (rng 4).all fun c => (rng 4).all fun d => !(decide ((c - d) % 2 = 0) && decide (D4 ⟨a, b, c, d⟩ ≤ 4)) || Nat.ble (nearer ⟨a, b, c, d⟩).length 4
theorem few_all : fewAll = true := by decide +kernel
theorem few_ok {q : Q4} (hp : pairB q = true) (hd : D4 q ≤ 4) : (nearer q).length ≤ 4 := by
  obtain ⟨a, b, c, d⟩ := q
  have m1 := mx_spec a b
  have m2 := mx_spec c d
  have hd' : mx a b + mx c d ≤ 4 := hd
  have hp' := hp
  unfold pairB at hp'
  simp only [Bool.and_eq_true, decide_eq_true_eq] at hp'
  have h := few_all
  unfold fewAll at h
  have h0 := List.all_eq_true.mp h a (mem_rng (by omega) (by omega))
  have h1 := List.all_eq_true.mp h0 b (mem_rng (by omega) (by omega))
  rw [decide_eq_true hp'.1] at h1
  have h1' := List.all_eq_true.mp h1 c (mem_rng (by omega) (by omega))
  have h2 := List.all_eq_true.mp h1' d (mem_rng (by omega) (by omega))
  rw [decide_eq_true hp'.2, decide_eq_true hd] at h2
  exact Nat.le_of_ble_eq_true h2
end Mv

/-! part T14 -/
set_option maxHeartbeats 1000000
namespace Mv
open PySem PySem.Spec L2

/-! ### first turns -/
theorem compL_filter {t : Tgt} {ft : Ev → Option Bool} {fe : Ev → Option D} {ρ : Ev} {α : Type} (x : α → D) (P : α → Bool) : ∀ as : List α, (∀ a ∈ as, ∃ ρ1, tgE t (x a) ρ = some ρ1 ∧ ft ρ1 = some (P a) ∧ fe ρ1 = some (x a)) → compL t ft fe ρ (as.map x) = some ((as.filter P).map x)
  | [], _ => rfl
  | a :: as, h => by
    obtain ⟨ρ1, h1, h2, h3⟩ := h a List.mem_cons_self
    have ih := compL_filter x P as fun b hb => h b (List.mem_cons_of_mem _ hb)
    rw [List.map_cons]
    unfold compL
    rw [h1]
    dsimp only
    rw [h2]
    cases hP : P a with
    | true =>
      rw [List.filter_cons_of_pos hP, List.map_cons]
      dsimp only
      rw [h3]
      dsimp only
      rw [ih]
    | false =>
      rw [List.filter_cons_of_neg (by rw [hP]; decide)]
      exact ih
theorem qS_after {s t : Sd} {q : Q4} (h : t = slnt s q) {m : Nat} (hm : m < 8) : qS (tn s m) t = cmp (inv (mv m)) q := by
  have e : t = slnt (tn s m) (cmp (inv (mv m)) q) := by
    rw [h, slnt_rel (q := mv m) (tn_slnt s m hm) q]
  rw [e, qS_slnt]
theorem dLt_int (a b : Int) : dLt (.int a) (.int b) = some (.bool (decide (a < b))) := rfl
theorem first_in_ev {s t : Sd} {q : Q4} (h : t = slnt s q) : F_first_turns_in [sD' s, sD' t] = some (.list ((nearer q).map mvD)) := by
  have hq : qS s t = q := by rw [h, qS_slnt]
  unfold F_first_turns_in
  rw [run2]
  unfold B_first_turns_in
  refine end_nx (ρ' := [some (sD' s), some (sD' t), some (.int (D4 q)), some (.list ((List.range 8).map mvD)), none, none, none]) ?_ (end_rt ?_)
  · have e : aE mkT (consA (aE F_fewest_turned_in (consA (vE 0) (consA (vE 1) nilA))) (consA (comp2E (rngE (cE (.int 4))) (.one 5) [5, 6] (seqE (cE handsD)) (.one 6) [6] (aE mkT (consA (cE (.str "turn")) (consA (vE 5) (consA (vE 6) nilA))))) nilA)) (padE [sD' s, sD' t] 7) = some (.tuple [.int (D4 q), .list ((List.range 8).map mvD)]) := by
      refine aE_ev (ds := [.int (D4 q), .list ((List.range 8).map mvD)]) (consA_ev ?_ (consA_ev (by kernel_rfl) rfl)) rfl
      rw [← hq]
      exact fewest_in_ev s t
    unfold atE
    rw [e]
    rfl
  · unfold compE
    show (match Nat.ble ((List.range 8).map mvD).length lim with | true => _ | false => none) = _
    rw [List.length_map, show Nat.ble (List.range 8).length lim = true from rfl]
    dsimp only
    rw [compL_filter mvD (fun m => decide (D4 (cmp (inv (mv m)) q) < D4 q)) (List.range 8) fun m hm => ⟨_, rfl, toB_ev ?_, rfl⟩]
    · rfl
    · have hm' : m < 8 := List.mem_range.mp hm
      rw [o2_ev (x := .int (D4 (cmp (inv (mv m)) q))) (y := .int (D4 q)) (aE_ev (ds := [sD' (tn s m), sD' t]) (consA_ev (moved_ev s m hm') (consA_ev rfl rfl)) (by rw [← qS_after h hm']; exact fewest_in_ev _ _)) rfl]
      exact dLt_int _ _
theorem mvOf_mv : ∀ m, m < 8 → mvOf (mvD m) = some m := by decide +kernel
theorem mvsOf_map : ∀ (ms : List Nat), (∀ m ∈ ms, m < 8) → mvsOf (ms.map mvD) = some ms
  | [], _ => rfl
  | m :: ms, h => by
    rw [List.map_cons]
    unfold mvsOf
    rw [mvOf_mv m (h m List.mem_cons_self)]
    dsimp only
    rw [mvsOf_map ms fun k hk => h k (List.mem_cons_of_mem _ hk)]
theorem nodupB_of : ∀ {is : List Nat}, is.Nodup → nodupB is = true
  | [], _ => rfl
  | i :: is, h => by
    have h' := List.nodup_cons.mp h
    unfold nodupB
    rw [nodupB_of h'.2, Bool.and_true]
    simpa using h'.1
theorem nearer_lt (q : Q4) : ∀ m ∈ nearer q, m < 8 := fun m hm => List.mem_range.mp (List.mem_filter.mp hm).1
theorem sort_nearer (q : Q4) : sortN (nearer q) = nearer q := by
  unfold sortN
  refine List.filter_congr fun i hi => ?_
  rw [Bool.eq_iff_iff, List.contains_iff_mem]
  unfold nearer
  rw [List.mem_filter]
  exact ⟨fun h => h.2, fun h => ⟨hi, h⟩⟩
theorem set_of_ev {q : Q4} (h : (nearer q).length ≤ 4) : F_set_of [.list ((nearer q).map mvD)] = some (rowD (nearer q)) := by
  unfold F_set_of
  rw [run1]
  refine end_rt ?_
  show setOfD (.list ((nearer q).map mvD)) = _
  unfold setOfD sortMv
  dsimp only
  rw [mvsOf_map _ (nearer_lt q)]
  dsimp only
  rw [nodupB_of (is := nearer q) ((List.nodup_range (n := 8)).filter _), Nat.ble_eq_true_of_le h, sort_nearer]
  rfl
theorem first_ev {x y : D} {s t : Sd} {q : Q4} (h1 : Tells x s) (h2 : Tells y t) (h : t = slnt s q) (hp : pairB q = true) (hd : D4 q ≤ 4) : F_first_turns [x, y] = some (rowD (nearer q)) := by
  have hb : barB s t = "" := by rw [h]; exact bar_slnt s q hp
  unfold F_first_turns
  rw [run2]
  unfold B_first_turns
  refine end_nx (ρ' := [some x, some y, some (sD' s), some (sD' t)]) ?_ (end_rt (aE_ev (ds := [.list ((nearer q).map mvD)]) (consA_ev (first_in_ev h) rfl) (set_of_ev (few_ok hp hd))))
  unfold atE
  rw [show aE F_sure_turned (consA (vE 0) (consA (vE 1) nilA)) (padE [x, y] 4) = _ from sure_turned_ev h1 h2 hb]
  rfl
/-! ### the plan -/
theorem turns_ev : F_law_turns [] = some (.list turnsD) := by kernel_rfl
theorem in_turns : ∀ m, m < 8 → dNotIn (mvD m) (.list turnsD) = some (.bool false) := by
  intro m hm
  match m, hm with
  | 0, _ => kernel_rfl
  | 1, _ => kernel_rfl
  | 2, _ => kernel_rfl
  | 3, _ => kernel_rfl
  | 4, _ => kernel_rfl
  | 5, _ => kernel_rfl
  | 6, _ => kernel_rfl
  | 7, _ => kernel_rfl
theorem filter_none {α : Type} : ∀ as : List α, as.filter (fun _ => false) = []
  | [] => rfl
  | a :: as => by rw [List.filter_cons_of_neg (by decide)]; exact filter_none as
theorem plan_right_ev {s t : Sd} {q : Q4} (gs : Good s) (gt : Good t) (h : t = slnt s q) (hp : pairB q = true) (hd : D4 q ≤ 6) : F_law_plan_right [sD' s, sD' t, .int (D4 q)] = some (.bool true) := by
  have hq : qS s t = q := by rw [h, qS_slnt]
  have hb : barB s t = "" := by rw [h]; exact bar_slnt s q hp
  obtain ⟨ms, ht, hlt, hlen, hrun⟩ := tell_ok hp hd
  have hl : ms.length ≤ 2000 := by omega
  have hr : run s ms = t := by rw [run_q s hlt, hrun, h]
  have told : F_law_heard [.int 2, lsD s, sD' t] = some (rowD ms) := by
    rw [(heard_good (sure1 gs).2 (sure1 gt).1 hb).2.2.1]
    exact turn_plan_ev (sure1 gs).2 (sure1 gt).1 hb (by rw [hq]; omega) (by rw [hq]; exact ht)
  unfold F_law_plan_right
  rw [run3]
  unfold B_law_plan_right
  refine end_nx (ρ' := [some (sD' s), some (sD' t), some (.int (D4 q)), some (rowD ms), none]) ?_ (end_nx (ρ' := [some (sD' s), some (sD' t), some (.int (D4 q)), some (rowD ms), none]) ?_ (end_rt (andV_ev true true ?_ ?_)))
  · unfold asE
    rw [aE_ev (ds := [.int 2, lsD s, sD' t]) (consA_ev rfl (consA_ev (lists_ev s) (consA_ev rfl rfl))) told]
    rfl
  · unfold isE
    have e1 : notB (toB (o1 (isiD .tuple) (vE 3))) [some (sD' s), some (sD' t), some (.int (D4 q)), some (rowD ms), none] = some false := rfl
    have e2 : toB (o2 dNe (aE lenD (consA (vE 3) nilA)) (vE 2)) [some (sD' s), some (sD' t), some (.int (D4 q)), some (rowD ms), none] = some false := by
      refine toB_ev ?_
      rw [o2_ev (x := .int (ms.length : Int)) (y := .int (D4 q)) (by show some (PyData.int ((ms.map mvD).length : Int)) = _; rw [List.length_map]) rfl]
      show some (PyData.bool (!decide ((ms.length : Int) = D4 q))) = _
      rw [decide_eq_true hlen]; rfl
    have e3 : toB (o2 dNe (compE (seqE (vE 3)) (.one 4) ([4]) (toB (o2 dNotIn (vE 4) (aE F_law_turns nilA))) (vE 4)) (aE mkL nilA)) [some (sD' s), some (sD' t), some (.int (D4 q)), some (rowD ms), none] = some false := by
      refine toB_ev ?_
      rw [o2_ev (x := .list []) (y := .list []) ?_ rfl]
      · kernel_rfl
      unfold compE
      show (match Nat.ble (ms.map mvD).length lim with | true => _ | false => none) = _
      rw [List.length_map, Nat.ble_eq_true_of_le (Nat.le_trans hl (by decide))]
      dsimp only
      rw [compL_filter mvD (fun _ => false) ms fun m hm => ⟨_, rfl, toB_ev ?_, rfl⟩]
      · rw [filter_none]; rfl
      · rw [o2_ev (x := mvD m) (y := .list turnsD) rfl turns_ev]
        exact in_turns m (hlt m hm)
    rw [or_ev false false e1 (or_ev false false e2 e3)]
    rfl
  · rw [o2_ev (x := sD' t) (y := sD' t) (by show F_law_behind [sD' s, rowD ms] = _; rw [law_behind_ev s hlt, hr]) rfl, dEq_sd, eqSd_iff]
    simp
  · refine aE_ev (ds := [sD' s, lsD t, rowD ms]) (consA_ev rfl (consA_ev (lists_ev t) (consA_ev rfl rfl))) ?_
    rw [is_plan_ev (sure1 gs).1 (sure1 gt).2 hl hlt, hb, hr, hq, decide_eq_true hlen]
    simp
/-! ### the same -/
def badD (x : Str) : D := .list [.bool false, canNotD, canNotD, canNotD, .str x, .bool false]
theorem same_bad {s t : Sd} (h : barB s t ≠ "") : F_law_same [badD (barB s t), badD (barB s t)] = some (.bool true) := by
  rcases bar_vals s t with e | e | e | e | e | e | e
  · rw [e]; exact isTrueD_some (by decide +kernel)
  · rw [e]; exact isTrueD_some (by decide +kernel)
  · rw [e]; exact isTrueD_some (by decide +kernel)
  · rw [e]; exact isTrueD_some (by decide +kernel)
  · rw [e]; exact isTrueD_some (by decide +kernel)
  · rw [e]; exact isTrueD_some (by decide +kernel)
  · exact absurd e h
def goodD (z : Int) : D := .list [.bool true, .int z, canNotD]
theorem same_good {z : Int} (h0 : 0 ≤ z) (h6 : z ≤ 6) : F_law_same [goodD z, goodD z] = some (.bool true) := by
  rcases int_cases (z := z) (by omega) h6 with e | e | e | e | e | e | rfl | rfl | rfl | rfl | rfl | rfl | rfl
  · omega
  · omega
  · omega
  · omega
  · omega
  · omega
  · exact isTrueD_some (by decide +kernel)
  · exact isTrueD_some (by decide +kernel)
  · exact isTrueD_some (by decide +kernel)
  · exact isTrueD_some (by decide +kernel)
  · exact isTrueD_some (by decide +kernel)
  · exact isTrueD_some (by decide +kernel)
  · exact isTrueD_some (by decide +kernel)
def pick (b : Nat → Bool) : List Nat := (List.range 8).filter b
def bits (b0 b1 b2 b3 b4 b5 b6 b7 : Bool) (i : Nat) : Bool := match i with
  | 0 => b0 | 1 => b1 | 2 => b2 | 3 => b3 | 4 => b4 | 5 => b5 | 6 => b6 | _ => b7
theorem same_row8 : ∀ b0 b1 b2 b3 b4 b5 b6 b7 : Bool, isTrueD (F_law_same [rowD (pick (bits b0 b1 b2 b3 b4 b5 b6 b7)), rowD (pick (bits b0 b1 b2 b3 b4 b5 b6 b7))]) = true := by decide +kernel
theorem same_row (P : Nat → Bool) : F_law_same [rowD (pick P), rowD (pick P)] = some (.bool true) := by
  have e : pick P = pick (bits (P 0) (P 1) (P 2) (P 3) (P 4) (P 5) (P 6) (P 7)) := by
    unfold pick
    refine List.filter_congr fun i hi => ?_
    have hi' : i < 8 := List.mem_range.mp hi
    match i, hi' with
    | 0, _ => rfl
    | 1, _ => rfl
    | 2, _ => rfl
    | 3, _ => rfl
    | 4, _ => rfl
    | 5, _ => rfl
    | 6, _ => rfl
    | 7, _ => rfl
  rw [e]
  exact isTrueD_some (same_row8 _ _ _ _ _ _ _ _)
theorem same_bool (b : Bool) : F_law_same [.bool b, .bool b] = some (.bool true) := by
  cases b
  · exact isTrueD_some (by decide +kernel)
  · exact isTrueD_some (by decide +kernel)
end Mv

/-! part U1 -/
set_option maxHeartbeats 4000000
namespace Mv
open PySem PySem.Spec L2

/-! ### the tin -/
def TinAt (H : Hp) (t : Addr) (m : Int) : Prop := ∃ a b c : Int, H t = some (.lst [.int a, .int b, .int c]) ∧ 0 ≤ c ∧ c ≤ m
/-- all but t stays -/
def But (t : Addr) (H H' : Hp) : Prop := ∀ b o, b ≠ t → H b = some o → H' b = some o
theorem But.trans {t : Addr} {H H1 H2 : Hp} (a : But t H H1) (b : But t H1 H2) : But t H H2 := fun c o hc h => b c o hc (a c o hc h)
theorem Same.but {t : Addr} {H H' : Hp} (e : Same H H') : But t H H' := fun c o _ h => e c o h
def spTake : Sp := fun vs H Q _ => ∃ (t : Addr) (n m : Int), vs = [.ref t, .int n] ∧ (1 ≤ n ∧ n ≤ 1000) ∧ m ≤ 1000000 ∧ TinAt H t m ∧ ∀ (r : Int) (H' : Hp), 0 ≤ r → r < n → But t H H' → TinAt H' t (m + 1) → Q (.int r) H'
def N_take : List Str := ["_law_tin", "_law_below_so", "_law_once_so", "_law_wide_so", "_law_twice_so", "_law_drawn"]
theorem sc_law_take : FnScope N_take ["_law_tin", "_law_below_so"] (defScope (topS 56)) := ⟨rfl, rfl, rfl, by decide +kernel, rfl, by decide +kernel, by decide +kernel⟩
/-- just the list at t -/
def one (t : Addr) (a b c : Int) : Hp := fun x => if x = t then some (.lst [.int a, .int b, .int c]) else none
theorem one_same {H : Hp} {t : Addr} {a b c : Int} (h : H t = some (.lst [.int a, .int b, .int c])) : Same (one t a b c) H := fun x o e => by
  unfold one at e
  split at e
  · next hx => rw [hx, h]; exact e
  · cases e
def tinD (a b c : Int) : D := .list [.int a, .int b, .int c]
theorem one_rp {K : PySem.W.Frag} {t : Addr} {a b c : Int} : Rp K (one t a b c) (.ref t) (tinD a b c) := .lst (if_pos rfl) (.cons (.int a) (.cons (.int b) (.cons (.int c) .nil)))
theorem t_mut {K : PySem.W.Frag} {G H : Hp} {σ : L2.St} {ρ : Ev} {t : Addr} {xs : List V} {j : Nat} {f : Ev → Option D} {z : Int} {De : Ends} (e : Same G H) (r : Rs K G σ ρ) (h0 : σ[0]? = some (some (.ref t))) (ht : H t = some (.lst xs)) (hf : f ρ = some (.int z)) (hj : j < xs.length)
    (k : ∀ G1 H1, Grow G H G1 H1 → De.nx σ (upd H1 t (.lst (xs.set j (.int z))))) : tAsg (tD K f) (gSub (tVar 0) (tD K (cE (.int (j : Nat)))) rSetL) De σ H := by
  refine ⟨G, ρ, _, e, r, hf, fun v G1 H1 g1 r1 => ⟨.ref t, h0, G1, ρ, _, g1.i, r.mono g1.g, rfl, fun y G2 H2 g2 r2 => ?_⟩⟩
  cases r1
  cases r2
  refine ⟨t, xs, (j : Nat), j, rfl, rfl, g2.h _ _ (g1.h _ _ ht), ?_, k G2 H2 (g1.trans g2)⟩
  unfold ixN
  rw [if_pos (Int.natCast_nonneg j), if_pos (by omega)]
  simp
def allI : Ev → Bool
  | [] => true
  | some (.int _) :: r => allI r
  | none :: r => allI r
  | _ :: _ => false
theorem allI_ok : ∀ (ρ : Ev) (i : Nat) (d : D), allI ρ = true → nth ρ i = some d → ∃ z : Int, d = .int z
  | [], _, _, _, h => by cases h
  | some (.int z) :: r, 0, d, _, h => by
    have h' : some (PyData.int z) = some d := h
    cases h'; exact ⟨z, rfl⟩
  | none :: r, 0, d, _, h => by
    have h' : (none : Option D) = some d := h
    cases h'
  | some (.int z) :: r, i + 1, d, a, h => allI_ok r i d a h
  | none :: r, i + 1, d, a, h => allI_ok r i d a h
  | some .none :: _, _, _, a, _ => by cases a
  | some (.bool _) :: _, _, _, a, _ => by cases a
  | some (.str _) :: _, _, _, a, _ => by cases a
  | some (.list _) :: _, _, _, a, _ => by cases a
  | some (.tuple _) :: _, _, _, a, _ => by cases a
  | some (.dict _) :: _, _, _, a, _ => by cases a
theorem rs_again {K : PySem.W.Frag} {G : Hp} {σ : L2.St} {ρ : Ev} {t : Addr} {a b c : Int} (r : Rs K G σ ρ) (h0 : σ[0]? = some (some (.ref t))) (hi : allI ρ.tail = true) : Rs K (one t a b c) σ (stE ρ 0 (some (tinD a b c))) := by
  refine ⟨by rw [stE_len]; exact r.len, fun i d h => ?_⟩
  rcases nth_stE ρ 0 i _ d h with ⟨rfl, e⟩ | ⟨ne, e⟩
  · cases e
    exact ⟨_, h0, one_rp⟩
  · have e' : nth ρ.tail (i - 1) = some d := by
      cases ρ with
      | nil => cases e
      | cons x xs => cases i with
        | zero => exact absurd rfl ne
        | succ i => exact e
    obtain ⟨z, rfl⟩ := allI_ok _ _ _ hi e'
    obtain ⟨v, h1, h2⟩ := r.at_ i _ e
    cases h2
    exact ⟨_, h1, .int z⟩
theorem upd_but {t : Addr} {H H1 : Hp} {o : HO} (e : Same H H1) : But t H (upd H1 t o) := fun b u hb h => by rw [upd_ne hb]; exact e _ _ h
theorem dMul_ev {x y : Int} (h : (small x || small y) = true) : dMul (.int x) (.int y) = some (.int (x * y)) := by
  show (match small x || small y with | true => some (PyData.int (x * y)) | false => none) = _
  rw [h]
section
variable {P : Program} {w : World} {K : PySem.W.Frag} {mg : Str → Option Value} {base : Heap}
theorem fn_law_take (B : Bt mg) (F : Df K mg "_law_take" (topS 56) ["_law_tin", "_law_below_so"]) :
    ∃ (f : Addr) (fd : FuncData) (ps : List Str), FnOk P w K mg base CX0 1 f fd ps spTake ∧ mg "_law_take" = some (.ref f) ∧ PySem.W.keepIn K (.ref f) = true ∧ Binds K fd ps [] := by
  obtain ⟨f, fd, F, hm, hbi⟩ := F.ex
  refine ⟨f, fd, _, ?_, hm, F.kp, hbi⟩
  refine F.ok sc_law_take (fun vs H Q E h => ?_) (fun cdv A outer s H vs Q E hr h => ?_)
  · obtain ⟨t, n, m, rfl, _⟩ := h; rfl
  have nd := sc_law_take.nd
  refine ⟨_, pss_cons (ps_if (tcmp op_dGt (xix (xv 0 rfl (Or.inl rfl)) xc_int) xc_int (nomark _))
      (pss_cons (ps_set (i := 5) nd rfl (Or.inl rfl) (xo2 op_dMod (xcallTy cl_int (by decide +kernel) B.int_ rfl (ac (xix (xv 0 rfl (Or.inl rfl)) xc_int) an)) (xv 1 rfl (Or.inl rfl))))
      (pss_cons (ps_asg (xo2 op_dDiv (xix (xv 0 rfl (Or.inl rfl)) xc_int) (xv 1 rfl (Or.inl rfl))) (pg_sub (pe_var (i := 0) rfl (Or.inl rfl)) xc_int set_list (by intro _; rfl)))
      (pss_one (ps_ret (xv 5 rfl (Or.inl rfl)))))) pss_nil)
    (pss_cons (ps_asg (xo2 op_dAdd (xix (xv 0 rfl (Or.inl rfl)) xc_int) xc_int) (pg_sub (pe_var (i := 0) rfl (Or.inl rfl)) xc_int set_list (by intro _; rfl)))
    (pss_cons (ps_set (i := 2) nd rfl (Or.inl rfl) (xo2 op_dMod (xcallTy cl_int (by decide +kernel) B.int_ rfl (ac (xo2 op_dMul (xo2 op_dAdd (xix (xv 0 rfl (Or.inl rfl)) xc_int) (xo2 op_dMul xc_int (xix (xv 0 rfl (Or.inl rfl)) xc_int))) (xo2 op_dAdd xc_int (xix (xv 0 rfl (Or.inl rfl)) xc_int))) an)) xc_int))
    (pss_cons (ps_set (i := 3) nd rfl (Or.inl rfl) (xo2 op_dAdd (xo2 op_dMod (xcallTy cl_int (by decide +kernel) B.int_ rfl (ac (xv 2 rfl (Or.inl rfl)) an)) xc_int) xc_int))
    (pss_cons (ps_set (i := 4) nd rfl (Or.inl rfl) (xo2 op_dMod (xcallTy cl_int (by decide +kernel) B.int_ rfl (ac (xo2 op_dMul (xo2 op_dAdd (xo2 op_dAdd (xv 2 rfl (Or.inl rfl)) (xix (xv 0 rfl (Or.inl rfl)) xc_int)) (xo2 op_dDiv (xix (xv 0 rfl (Or.inl rfl)) xc_int) xc_int)) (xv 3 rfl (Or.inl rfl))) an)) xc_int))
    (pss_one (ps_ret (xo2 op_dMod (xcallTy cl_int (by decide +kernel) B.int_ rfl (ac (xo2 op_dDiv (xo2 op_dMod (xcallTy cl_int (by decide +kernel) B.int_ rfl (ac (xo2 op_dAdd (xo2 op_dMul (xv 4 rfl (Or.inl rfl)) xc_int) (xv 2 rfl (Or.inl rfl))) an)) xc_int) xc_int) an)) (xv 1 rfl (Or.inl rfl))))))))), ?_⟩
  obtain ⟨t, n, m, rfl, hn, hmm, ⟨a, b, c, ht, hc0, hcm⟩, q⟩ := h
  have s0 := one_same ht
  have rs0 : Rs K (one t a b c) (L2.start N_take [.ref t, .int n]) (padE [tinD a b c, .int n] 6) := rs_start (.cons one_rp (.cons (.int n) .nil)) (by simp [N_take])
  -- is there something left?
  refine ⟨_, _, decide ((0 : Int) < a), s0, rs0, rfl, fun G1 H1 g1 => ?_⟩
  have rs1 := rs0.mono g1.g
  have ht1 := g1.h _ _ ht
  cases hd : decide ((0 : Int) < a) with
  | true =>
    have ha : 0 < a := of_decide_eq_true hd
    refine iteT ?_
    refine ⟨G1, _, .int (a % n), g1.i, rs1, ?_, fun v G2 H2 g2 r2 => ?_⟩
    · show (match decide (0 < n) with | true => some (PyData.int (a % n)) | false => none) = _
      rw [decide_eq_true (by omega)]
    have ht2 := g2.h _ _ ht1
    have rs2 := (rs1.mono g2.g).set 5 r2
    refine t_mut (j := 0) (z := a / n) g2.i rs2 rfl ht2 ?_ (by show 0 < 3; decide) fun G3 H3 g3 => ?_
    · show (match decide (0 < n) && decide (n < 1073741824) with | true => some (PyData.int (a / n)) | false => none) = _
      rw [decide_eq_true (by omega), decide_eq_true (by omega)]; rfl
    have rs3 : Rs K (one t (a / n) b c) _ [some (tinD (a / n) b c), some (.int n), none, none, none, some (.int (a % n))] := rs_again (rs2.mono g3.g) rfl rfl
    have ht3 : (upd H3 t (.lst [.int (a / n), .int b, .int c])) t = some (.lst [.int (a / n), .int b, .int c]) := upd_same
    refine ⟨_, _, .int (a % n), one_same ht3, rs3, rfl, fun v G4 H4 g4 r4 => ?_⟩
    cases r4
    exact q _ _ (Int.emod_nonneg _ (by omega)) (Int.emod_lt_of_pos _ (by omega)) ((upd_but (g1.h.trans (g2.h.trans g3.h))).trans (Same.but g4.h)) ⟨a / n, b, c, g4.h _ _ ht3, hc0, by omega⟩
  | false =>
    refine iteF ?_
    show tSeq _ _ _ _ H1
    refine t_mut (j := 2) (z := c + 1) g1.i rs1 rfl ht1 rfl (by show 2 < 3; decide) fun G2 H2 g2 => ?_
    have rs2 : Rs K (one t a b (c + 1)) _ [some (tinD a b (c + 1)), some (.int n), none, none, none, none] := rs_again (rs1.mono g2.g) rfl rfl
    have ht2 : (upd H2 t (.lst ([V.int a, .int b, .int c].set 2 (.int (c + 1))))) t = some (.lst [.int a, .int b, .int (c + 1)]) := upd_same
    have bt : But t H (upd H2 t (.lst ([V.int a, .int b, .int c].set 2 (.int (c + 1))))) := upd_but (g1.h.trans g2.h)
    generalize upd H2 t (.lst ([V.int a, .int b, .int c].set 2 (.int (c + 1)))) = H3 at ht2 bt ⊢
    have sm : small (39373 + (c + 1)) = true := by unfold small; exact Nat.ble_eq_true_of_le (by omega)
    refine ⟨_, _, .int ((b + 48271 * (c + 1)) * (39373 + (c + 1)) % 2147483647), one_same ht2, rs2, ?_, fun v G4 H4 g4 r4 => ?_⟩
    · rw [o2_ev (x := .int ((b + 48271 * (c + 1)) * (39373 + (c + 1)))) (y := .int 2147483647) (aE_ev (ds := [.int ((b + 48271 * (c + 1)) * (39373 + (c + 1)))]) (consA_ev ?_ rfl) rfl) rfl]
      · rfl
      · rw [o2_ev (x := .int (b + 48271 * (c + 1))) (y := .int (39373 + (c + 1))) (by kernel_rfl) (by kernel_rfl)]
        exact dMul_ev (by rw [sm, Bool.or_true])
    have rs4 := (rs2.mono g4.g).set 2 r4
    generalize (b + 48271 * (c + 1)) * (39373 + (c + 1)) % 2147483647 = o at rs4
    have ht4 := g4.h _ _ ht2
    refine ⟨_, _, .int (o % 40009 + 7), g4.i, rs4, rfl, fun v5 G5 H5 g5 r5 => ?_⟩
    have rs5 := (rs4.mono g5.g).set 3 r5
    have hw : 0 ≤ o % 40009 + 7 ∧ o % 40009 + 7 < 50000 := by omega
    generalize o % 40009 + 7 = wd at rs5 hw
    have sm2 : small wd = true := by unfold small; exact Nat.ble_eq_true_of_le (by omega)
    refine ⟨_, _, .int ((o + (c + 1) + b / 1000003) * wd % 2147483629), g5.i, rs5, ?_, fun v6 G6 H6 g6 r6 => ?_⟩
    · rw [o2_ev (x := .int ((o + (c + 1) + b / 1000003) * wd)) (y := .int 2147483629) (aE_ev (ds := [.int ((o + (c + 1) + b / 1000003) * wd)]) (consA_ev ?_ rfl) rfl) rfl]
      · rfl
      · rw [o2_ev (x := .int (o + (c + 1) + b / 1000003)) (y := .int wd) (by kernel_rfl) (by kernel_rfl)]
        exact dMul_ev (by rw [sm2, Bool.or_true])
    have rs6 := (rs5.mono g6.g).set 4 r6
    generalize (o + (c + 1) + b / 1000003) * wd % 2147483629 = tw at rs6
    refine ⟨_, _, .int ((tw * 48271 + o) % 2147483587 / 64 % n), g6.i, rs6, ?_, fun v7 G7 H7 g7 r7 => ?_⟩
    · rw [o2_ev (x := .int ((tw * 48271 + o) % 2147483587 / 64)) (y := .int n) (aE_ev (ds := [.int ((tw * 48271 + o) % 2147483587 / 64)]) (consA_ev ?_ rfl) rfl) rfl]
      · show (match decide (0 < n) with | true => some (PyData.int _) | false => none) = _
        rw [decide_eq_true (by omega)]
      · rw [o2_ev (x := .int ((tw * 48271 + o) % 2147483587)) (y := .int 64) (by
          rw [o2_ev (x := .int (tw * 48271 + o)) (y := .int 2147483587) (aE_ev (ds := [.int (tw * 48271 + o)]) (consA_ev (by
            rw [o2_ev (x := .int (tw * 48271)) (y := .int o) (by
              rw [o2_ev (x := .int tw) (y := .int 48271) rfl rfl]
              exact dMul_ev (by rw [show small 48271 = true from rfl, Bool.or_true])) rfl]
            rfl) rfl) rfl) rfl]
          rfl) rfl]
        rfl
    cases r7
    exact q _ _ (Int.emod_nonneg _ (by omega)) (Int.emod_lt_of_pos _ (by omega)) (bt.trans (Same.but (g4.h.trans (g5.h.trans (g6.h.trans g7.h))))) ⟨a, b, c + 1, g7.h _ _ (g6.h _ _ (g5.h _ _ ht4)), by omega, by omega⟩
end
end Mv

/-! part U2 -/
set_option maxHeartbeats 4000000
namespace Mv
open PySem PySem.Spec L2

/-! ### what draws from the tin -/
structure Tn (t : Addr) (m : Int) (G H : Hp) : Prop where
  i : Same G H
  g : G t = none
  t : TinAt H t m
theorem TinAt.mut {H : Hp} {t : Addr} {m : Int} (h : TinAt H t m) : Mut (H t) := by
  obtain ⟨a, b, c, e, _⟩ := h
  rw [e]; trivial
theorem TinAt.same {H H' : Hp} {t : Addr} {m : Int} (h : TinAt H t m) (e : Same H H') : TinAt H' t m := by
  obtain ⟨a, b, c, h, r⟩ := h
  exact ⟨a, b, c, e _ _ h, r⟩
theorem TinAt.more {H : Hp} {t : Addr} {m m' : Int} (h : TinAt H t m) (e : m ≤ m') : TinAt H t m' := by
  obtain ⟨a, b, c, h, h0, h1⟩ := h
  exact ⟨a, b, c, h, h0, by omega⟩
section
variable {t : Addr} {m m' : Int} {G H G' H' : Hp}
theorem Tn.grow (T : Tn t m G H) (g : Grow G H G' H') : Tn t m G' H' := ⟨g.i, g.n t T.t.mut T.g, T.t.same g.h⟩
theorem Tn.more (T : Tn t m G H) (e : m ≤ m') : Tn t m' G H := ⟨T.i, T.g, T.t.more e⟩
theorem Tn.but (T : Tn t m G H) (b : But t H H') (h : TinAt H' t m') : Tn t m' G H' := ⟨fun c o e => b c o (fun z => by rw [z, T.g] at e; cases e) (T.i c o e), T.g, h⟩
end
/-- as Grow, where the tin's list changes -/
structure GrowT (t : Addr) (G H G' H' : Hp) : Prop where
  g : Same G G'
  i : Same G' H'
  h : But t H H'
  n : ∀ a, Mut (H a) → G a = none → G' a = none
  m : Mut (H' t)
section
variable {t : Addr} {m m' : Int} {G H G1 H1 G2 H2 : Hp}
theorem Grow.toT (g : Grow G H G1 H1) (T : Tn t m G H) : GrowT t G H G1 H1 := ⟨g.g, g.i, Same.but g.h, g.n, (T.grow g).t.mut⟩
theorem GrowT.trans (a : GrowT t G H G1 H1) (b : GrowT t G1 H1 G2 H2) : GrowT t G H G2 H2 :=
  ⟨a.g.trans b.g, b.i, a.h.trans b.h, fun c h1 h2 => by
    refine b.n c ?_ (a.n c h1 h2)
    by_cases hc : c = t
    · rw [hc]; exact a.m
    · cases q : H c with
      | none => rw [q] at h1; exact h1.elim
      | some o => rw [a.h c o hc q, ← q]; exact h1, b.m⟩
theorem Tn.growT (T : Tn t m G H) (g : GrowT t G H G1 H1) (h : TinAt H1 t m') : Tn t m' G1 H1 := ⟨g.i, g.n t T.t.mut T.g, h⟩
end
/-- a def that draws: at most dm times; what it answers is told by res -/
def spN (K : PySem.W.Frag) (dm : Int) (pre : List D → Prop) (res : List D → D → Prop) : Sp := fun vs H Q _ => ∃ (t : Addr) (rest : List V) (G : Hp) (ds : List D) (m : Int), vs = .ref t :: rest ∧ RpAll K G rest ds ∧ Tn t m G H ∧ m + dm ≤ 100000 ∧ pre ds ∧
  ∀ (d : D) (v : V) (G' H' : Hp), res ds d → GrowT t G H G' H' → TinAt H' t (m + dm) → Rp K G' v d → Q v H'
structure CalN (P : Program) (w : World) (K : PySem.W.Frag) (mg : Str → Option Value) (base : Heap) (k : Nat) (x : Str) (dm : Int) (pre : List D → Prop) (res : List D → D → Prop) : Prop where
  ex : ∃ (f : Addr) (fd : FuncData) (ps : List Str), FnOk P w K mg base CX0 k f fd ps (spN K dm pre res) ∧ mg x = some (.ref f) ∧ PySem.W.keepIn K (.ref f) = true ∧ Binds K fd ps []
def preTake (ds : List D) : Prop := ∃ n : Int, ds = [.int n] ∧ 1 ≤ n ∧ n ≤ 1000
def resTake (ds : List D) (d : D) : Prop := ∃ n r : Int, ds = [.int n] ∧ d = .int r ∧ 0 ≤ r ∧ r < n
section
variable {P : Program} {w : World} {K : PySem.W.Frag} {mg : Str → Option Value} {base : Heap}
theorem CalN.mono {j k : Nat} {x : Str} {dm : Int} {pre : List D → Prop} {res : List D → D → Prop} (c : CalN P w K mg base j x dm pre res) (h : j ≤ k) : CalN P w K mg base k x dm pre res := by
  obtain ⟨f, fd, ps, F, r⟩ := c.ex
  exact ⟨f, fd, ps, F.mono h, r⟩
theorem cal_take (B : Bt mg) (F : Df K mg "_law_take" (topS 56) ["_law_tin", "_law_below_so"]) : CalN P w K mg base 1 "_law_take" 1 preTake resTake := by
  obtain ⟨f, fd, ps, F, r⟩ := fn_law_take (P := P) (w := w) (base := base) B F
  refine ⟨f, fd, ps, F.imp fun vs H Q E h => ?_, r⟩
  obtain ⟨t, rest, G, ds, m, rfl, ra, T, hm, ⟨n, rfl, h1, h2⟩, q⟩ := h
  cases ra with
  | cons a1 ra =>
  cases ra
  cases a1
  exact ⟨t, n, m, rfl, ⟨h1, h2⟩, by omega, T.t, fun r H' hr0 hrn hb ht => q _ _ G H' ⟨n, r, rfl, rfl, hr0, hrn⟩ ⟨Same.refl _, (T.but hb ht).i, hb, fun _ _ z => z, ht.mut⟩ ht (.int r)⟩
/-- such a call, read -/
theorem n_call {dm : Int} {pre : List D → Prop} {res : List D → D → Prop} {σ : L2.St} {ρ : Ev} {G H : Hp} {t : Addr} {m : Int} {j : Nat} {h : Ev → Option (List D)} {ds : List D} {Q : VK} (T : Tn t m G H) (r : Rs K G σ ρ) (h0 : σ[j]? = some (some (.ref t))) (hm : m + dm ≤ 100000) (hh : h ρ = some ds) (hp : pre ds)
    (q : ∀ (d : D) (v : V) (G' H' : Hp), res ds d → GrowT t G H G' H' → TinAt H' t (m + dm) → Rp K G' v d → Q v H') : tCall (spN K dm pre res) [] E0 (tCons (tVar j) (aD K h)) σ H Q := by
  refine ⟨.ref t, h0, G, ρ, ds, T.i, r, hh, fun vs G1 H1 g1 r1 => ?_⟩
  show spN K dm pre res ((V.ref t :: vs) ++ []) H1 Q E0
  rw [List.append_nil]
  exact ⟨t, vs, G1, ds, m, rfl, r1, T.grow g1, hm, hp, fun d v G' H' hr g2 T' rv => q d v G' H' hr ((g1.toT T).trans g2) T' rv⟩
/-! ### _law_of -/
def preOf (ds : List D) : Prop := ∃ gs, ds = [.list gs] ∧ 1 ≤ gs.length ∧ gs.length ≤ 1000
def resOf (ds : List D) (d : D) : Prop := ∃ gs, ds = [.list gs] ∧ d ∈ gs
theorem sc_law_of : FnScope ["_law_tin", "_law_goods_so"] ["_law_tin", "_law_goods_so"] (defScope (topS 58)) := ⟨rfl, rfl, rfl, by decide +kernel, rfl, by decide +kernel, by decide +kernel⟩
theorem rs_tin {K : PySem.W.Frag} {G : Hp} {t : Addr} {N : List Str} {rest : List V} {ds : List D} {n : Nat} (r : RpAll K G rest ds) (hN : N.length = n + 1) (hl : ds.length ≤ n) : Rs K G (L2.start N (.ref t :: rest)) (none :: padE ds n) := by
  obtain ⟨x, N', rfl⟩ : ∃ x N', N = x :: N' := by cases N with
    | nil => cases hN
    | cons x N' => exact ⟨x, N', rfl⟩
  have h' : N'.length = n := by simpa using hN
  have r0 := rs_start (N := N') r (by omega)
  rw [h'] at r0
  refine ⟨?_, fun i d h => ?_⟩
  · have := r0.len
    unfold L2.start at this ⊢
    simp only [List.length_append, List.length_map, List.length_replicate, List.length_cons] at this ⊢
    omega
  · cases i with
    | zero => cases h
    | succ i =>
      obtain ⟨v, h1, h2⟩ := r0.at_ i d h
      refine ⟨v, ?_, h2⟩
      unfold L2.start at h1 ⊢
      simp only [List.map_cons, List.length_cons, List.cons_append, List.getElem?_cons_succ, Nat.add_sub_add_right] at h1 ⊢
      exact h1
theorem getI_mem {gs : List D} {r : Int} (h0 : 0 ≤ r) (h1 : r < gs.length) : ∃ d, getI gs r = some d ∧ d ∈ gs := by
  obtain ⟨k, rfl⟩ := Int.eq_ofNat_of_zero_le h0
  have hk : k < gs.length := by omega
  have nd : ∀ (gs : List D) (k : Nat) (h : k < gs.length), nthD gs k = some gs[k] := by
    intro gs
    induction gs with
    | nil => intro k h; cases h
    | cons g gs ih =>
      intro k h
      cases k with
      | zero => rfl
      | succ k => exact ih k (by simpa using h)
  exact ⟨gs[k], nd gs k hk, List.getElem_mem hk⟩
theorem cal_of (B : Bt mg) (F : Df K mg "_law_of" (topS 58) ["_law_tin", "_law_goods_so"]) (c : CalN P w K mg base 1 "_law_take" 1 preTake resTake) : CalN P w K mg base 2 "_law_of" 1 preOf resOf := by
  obtain ⟨f, fd, F, hm, hbi⟩ := F.ex
  obtain ⟨f1, fd1, ps1, F1, m1, k1, b1⟩ := c.ex
  refine ⟨f, fd, _, ?_, hm, F.kp, hbi⟩
  refine F.ok sc_law_of (fun vs H Q E h => ?_) (fun cdv A outer s H vs Q E hr h => ?_)
  · obtain ⟨t, rest, G, ds, m, rfl, ra, T, hm, ⟨gs, rfl, _⟩, q⟩ := h
    rw [List.length_cons, ra.length]; rfl
  have nd := sc_law_of.nd
  refine ⟨_, pss_one (ps_ret (pe_ix ix_D (xv 1 rfl (Or.inl rfl)) (pe_call F1 hr rfl m1 k1 b1 .nil pass0 (pa_cons (pe_var (i := 0) rfl (Or.inl rfl)) (ac (xcallB cl_len (by decide +kernel) B.len_ rfl (ac (xv 1 rfl (Or.inl rfl)) an)) an))) (fun _ _ => rfl))), ?_⟩
  obtain ⟨t, rest, G, ds, m, rfl, ra, T, hm, ⟨gs, rfl, hg1, hg2⟩, q⟩ := h
  have rs0 : Rs K G (L2.start ["_law_tin", "_law_goods_so"] (.ref t :: rest)) [none, some (.list gs)] := rs_tin (n := 1) ra rfl (Nat.le_refl _)
  refine ⟨G, _, .list gs, T.i, rs0, rfl, fun v G1 H1 g1 r1 => ?_⟩
  refine n_call (j := 0) (ds := [.int (gs.length : Int)]) (T.grow g1) (rs0.mono g1.g) rfl hm rfl ⟨_, rfl, by omega, by omega⟩ fun d v2 G2 H2 hr g2 T2 r2 => ?_
  obtain ⟨n, r, e1, rfl, h0, h1⟩ := hr
  cases e1
  obtain ⟨d, hd, hmem⟩ := getI_mem h0 h1
  have N2 := (T.grow g1).growT g2 T2
  exact ⟨G2, .list gs, .int r, d, g2.i, Rp.mono g2.g _ _ r1, r2, hd, fun v3 G3 H3 g3 r3 => q d v3 G3 H3 ⟨gs, rfl, hmem⟩ ((g1.toT T).trans (g2.trans (g3.toT N2))) (N2.grow g3).t r3⟩
end
end Mv

/-! part U3 -/
set_option maxHeartbeats 4000000
namespace Mv
open PySem PySem.Spec L2

/-! ### _law_walk -/
def preWalk (ds : List D) : Prop := ∃ (k : Nat) (gs : List D), ds = [.int (k : Nat), .list gs] ∧ k ≤ 10 ∧ 1 ≤ gs.length ∧ gs.length ≤ 1000
def resWalk (ds : List D) (d : D) : Prop := ∃ (k : Nat) (gs ys : List D), ds = [.int (k : Nat), .list gs] ∧ d = .tuple ys ∧ ys.length = k ∧ ∀ y ∈ ys, y ∈ gs
theorem n_lc {K : PySem.W.Frag} {pre : List D → Prop} {res : List D → D → Prop} {σ : L2.St} {ρ : Ev} {G H : Hp} {t : Addr} {m : Int} {k : Nat} {fi h : Ev → Option (List D)} {ds : List D} {Q : VK} (T : Tn t m G H) (r : Rs K G σ ρ) (h0 : σ[0]? = some (some (.ref t))) (hk : k ≤ 1000) (hm : m + k ≤ 100000) (hi : fi ρ = some (intsD k))
    (hh : ∀ z, h (stE (wipeE ρ [3]) 3 (some z)) = some ds) (hp : pre ds) (q : ∀ (ys : List D) (v : V) (G' H' : Hp), ys.length = k → (∀ y ∈ ys, res ds y) → GrowT t G H G' H' → TinAt H' t (m + k) → Rp K G' v (.list ys) → Q v H') :
    tLc (iD K fi) (gD K (.one 3)) (bD yesB K) (tCall (spN K 1 pre res) [] E0 (tCons (tVar 0) (aD K h))) [3] σ H Q := by
  refine ⟨G, ρ, intsD k, T.i, r, hi, fun J G1 H1 g1 it => ?_⟩
  intro Dd hD
  have T1 := T.grow g1
  have nDt : Dd ≠ t := fun z => by
    obtain ⟨a, b, c, e, _⟩ := T1.t
    rw [z, e] at hD; cases hD
  have g2 := Grow.side (p := Dd) (o := .lst []) g1.i hD
  let W0 : Nat → Hp → Prop := fun i H2 => i ≤ k ∧ ∃ (G2 : Hp) (acc : List V) (ys : List D), GrowT t G1 H1 G2 H2 ∧ TinAt H2 t (m + i) ∧ G2 Dd = none ∧ H2 Dd = some (.lst acc) ∧ RpAll K G2 acc ys ∧ ys.length = i ∧ ∀ y ∈ ys, res ds y
  have T2 := T1.grow g2
  have t2 : TinAt (upd H1 Dd (.lst [])) t (m + ((0 : Nat) : Int)) := T2.t.more (by omega)
  refine ⟨fun i n H2 => n = k - i ∧ W0 i H2, ⟨_, rfl, Nat.zero_le _, G1, [], [], g2.toT T1, t2, g1.i.free hD, upd_same, .nil, rfl, fun y hy => by cases hy⟩, ?_⟩
  rintro i n H2 ⟨rfl, hik, G2, acc, ys, gr, ht, gD', hacc, ra, hlen, hres⟩
  have N2 : Tn t (m + i) G2 H2 := T1.growT gr ht
  by_cases hlt : i < k
  · have hd : (intsD k)[i]? = some (.int (i : Nat)) := by rw [intsD_get, if_pos hlt]
    obtain ⟨hgo, hy⟩ := it.go G2 H2 i _ gr.g gr.i hd
    refine .inr ⟨hgo, W0 (i + 1), fun H' w => ⟨k - (i + 1), by omega, rfl, w⟩, fun x H' yl => ?_⟩
    obtain ⟨G3, g3, rx⟩ := hy x H' yl
    have N3 := N2.grow g3
    refine ⟨G3, wipeE ρ [3], _, _, g3.i, (r.mono (g1.g.trans (gr.g.trans g3.g))).wipe [3], rx, rfl, fun σ2 r2 hw => ⟨(hw [3] (by decide)).trans (wipe_wipe σ [3]), ?_⟩⟩
    have hw2 : wipe σ2 [3] = wipe σ [3] := (hw [3] (by decide)).trans (wipe_wipe σ [3])
    have h02 : σ2[0]? = some (some (.ref t)) := (get_wipe 0 3 hw2 (by decide)).trans h0
    refine ⟨G3, _, true, g3.i, r2, rfl, fun G4 H4 g4 => iteT ?_⟩
    have N4 := N3.grow g4
    refine n_call N4 (r2.mono g4.g) h02 (by omega) (hh _) hp fun d v G5 H5 hr g5 t5 r5 => ?_
    have acc4 : H4 Dd = some (.lst acc) := g4.h _ _ (g3.h _ _ hacc)
    have acc5 : H5 Dd = some (.lst acc) := g5.h _ _ nDt acc4
    have nG : G5 Dd = none := g5.n Dd (by rw [acc4]; trivial) (g4.n Dd (by rw [g3.h _ _ hacc]; trivial) (g3.n Dd (by rw [hacc]; trivial) gD'))
    refine ⟨acc, acc5, by rw [ra.length, hlen]; exact Nat.lt_of_lt_of_le (Nat.lt_of_lt_of_le hlt hk) (by decide), hlt, G5, acc ++ [v], ys ++ [d], ?_, ?_, nG, upd_same, ((RpAll.mono (g3.g.trans (g4.g.trans g5.g)) _ _ ra)).append (.cons r5 .nil), by rw [List.length_append, hlen]; rfl, fun y hy => ?_⟩
    · have gg := gr.trans ((g3.toT N2).trans ((g4.toT N3).trans g5))
      refine ⟨gg.g, fun b o e => ?_, fun b o hb e => ?_, gg.n, ?_⟩
      · rw [upd_ne (fun z => by rw [z, nG] at e; cases e)]; exact gg.i _ _ e
      · by_cases hbD : b = Dd
        · rw [hbD, hD] at e; cases e
        · rw [upd_ne hbD]; exact gg.h _ _ hb e
      · rw [upd_ne nDt.symm]; exact gg.m
    · obtain ⟨a, b, c, e, e2⟩ := t5
      exact ⟨a, b, c, by rw [upd_ne nDt.symm]; exact e, by push_cast; omega⟩
    · rcases List.mem_append.mp hy with hy | hy
      · exact hres y hy
      · rw [List.mem_singleton.mp hy]; exact hr
  · have ei : i = k := by omega
    subst ei
    refine .inl ⟨by have := it.stop G2 H2 gr.g gr.i; rwa [intsD_len] at this, ?_⟩
    have sG : Same G2 (upd G2 Dd (.lst acc)) := same_new gD'
    refine q ys (.ref Dd) (upd G2 Dd (.lst acc)) H2 hlen hres ⟨g1.g.trans (gr.g.trans sG), fun b o e => ?_, (Same.but g1.h).trans gr.h, fun b h1 h2 => ?_, gr.m⟩ ht (.lst upd_same (RpAll.mono sG _ _ ra))
    · by_cases hb : b = Dd
      · rw [hb, upd_same] at e; rw [hb, hacc]; exact e
      · rw [upd_ne hb] at e; exact gr.i _ _ e
    · have nb : b ≠ Dd := fun z => mut_none h1 (by rw [z]; exact g1.h.free hD)
      rw [upd_ne nb]
      exact gr.n b (mut_same g1.h h1) (g1.n b h1 h2)
theorem sc_law_walk : FnScope ["_law_tin", "_law_many_so", "_law_steps_so", "_law_lap"] ["_law_tin", "_law_many_so", "_law_steps_so"] (defScope (topS 71)) := ⟨rfl, rfl, rfl, by decide +kernel, rfl, by decide +kernel, by decide +kernel⟩
section
variable {P : Program} {w : World} {K : PySem.W.Frag} {mg : Str → Option Value} {base : Heap}
theorem cal_walk (B : Bt mg) (F : Df K mg "_law_walk" (topS 71) ["_law_tin", "_law_many_so", "_law_steps_so"]) (c : CalN P w K mg base 2 "_law_of" 1 preOf resOf) : CalN P w K mg base 3 "_law_walk" 10 preWalk resWalk := by
  obtain ⟨f, fd, F, hm, hbi⟩ := F.ex
  obtain ⟨f1, fd1, ps1, F1, m1, k1, b1⟩ := c.ex
  refine ⟨f, fd, _, ?_, hm, F.kp, hbi⟩
  refine F.ok sc_law_walk (fun vs H Q E h => ?_) (fun cdv A outer s H vs Q E hr h => ?_)
  · obtain ⟨t, rest, G, ds, m, rfl, ra, T, hm, ⟨k, gs, rfl, _⟩, q⟩ := h
    rw [List.length_cons, ra.length]; rfl
  have nd := sc_law_walk.nd
  refine ⟨_, pss_one (ps_ret (pe_callTy cl_tuple rfl B.tuple_ (by decide +kernel) (pa_cons (pe_lc (own := [("_law_lap", 3)]) (g := gD K (.one 3)) (tt := bD yesB K) (te := tCall (spN K 1 preOf resOf) [] E0 (tCons (tVar 0) (aD K (consA (vE 2) nilA)))) rfl nd (irange B.range_ rfl (xv 1 rfl (Or.inl rfl))) (blkOk_by (N := ["_law_tin", "_law_many_so", "_law_steps_so", "_law_lap"]) (sc := defScope (topS 71)) (by decide +kernel))
    (fun _ _ _ _ _ => (g1 (i := 3) nd rfl (Or.inl rfl))) (fun _ _ _ _ _ => ts0) (fun _ _ _ _ _ => pe_call F1 hr rfl m1 k1 b1 .nil pass0 (pa_cons (pe_var (i := 0) rfl (Or.inr (Or.inl rfl))) (ac (xv 2 rfl (Or.inr (Or.inl rfl))) an)))) pa_nil))), ?_⟩
  obtain ⟨t, rest, G, ds, m, rfl, ra, T, hm, ⟨k, gs, rfl, hk, hg1, hg2⟩, q⟩ := h
  have rs0 : Rs K G (L2.start ["_law_tin", "_law_many_so", "_law_steps_so", "_law_lap"] (.ref t :: rest)) [none, some (.int (k : Nat)), some (.list gs), none] := rs_tin (n := 3) ra rfl (by show 2 ≤ 3; decide)
  rw [tRet, tCB, tCons]
  refine n_lc (k := k) (ds := [.list gs]) T rs0 rfl (by omega) (by omega) ?_ (fun z => rfl) ⟨gs, rfl, hg1, hg2⟩ fun ys v G' H' hl hres g t' rv => ?_
  · show (match decide ((0 : Int) ≤ (k : Nat)) && decide (((k : Nat) : Int) ≤ 65536) with | true => some (intsD ((k : Nat) : Int).toNat) | false => none) = _
    rw [decide_eq_true (by omega), decide_eq_true (by omega)]; rfl
  have N := T.growT g t'
  refine ⟨G', [.list ys], .tuple ys, g.i, .cons rv .nil, rfl, fun v2 G2 H2 g2 r2 => ?_⟩
  exact q (.tuple ys) v2 G2 H2 ⟨k, gs, ys, rfl, rfl, hl, fun y hy => by obtain ⟨gs', e, hm'⟩ := hres y hy; cases e; exact hm'⟩ (g.trans (g2.toT N)) ((N.grow g2).t.more (by omega)) r2
end
end Mv

/-! part U4 -/
set_option maxHeartbeats 4000000
namespace Mv
open PySem PySem.Spec L2

/-! ### _law_somewhere -/
def homeS : Sd := ⟨.o012, ⟨0, 0, 0⟩, ⟨0, 0, 0⟩, ⟨1, 1, 1⟩⟩
theorem good_home : Good homeS := ⟨.inl rfl, .inl rfl, .inl rfl⟩
theorem home_ev : F_law_home [] = some (sD' homeS) := by kernel_rfl
def tipsD : List D := [tipM 0, tipM 1, tipM 2, tipM 3]
theorem tips_ev : F_law_tips [] = some (.list tipsD) := by kernel_rfl
theorem step12 {y : D} (hy : y ∈ tipsD ++ turnsD) {s : Sd} (g : Good s) : ∃ s', Good s' ∧ F_law_step [sD' s, y] = some (sD' s') := by
  rcases List.mem_append.mp hy with h | h
  · simp only [tipsD, List.mem_cons, List.not_mem_nil, or_false] at h
    rcases h with rfl | rfl | rfl | rfl
    · exact ⟨_, good_tp g 0, step_tip s 0 (by decide)⟩
    · exact ⟨_, good_tp g 1, step_tip s 1 (by decide)⟩
    · exact ⟨_, good_tp g 2, step_tip s 2 (by decide)⟩
    · exact ⟨_, good_tp g 3, step_tip s 3 (by decide)⟩
  · obtain ⟨m, hm, rfl⟩ := List.mem_map.mp h
    exact ⟨_, good_tn g m, step_turn s m (turnsN_lt m hm)⟩
theorem loop12 : ∀ (ys : List D) (s : Sd) (W x : Option D), (∀ y ∈ ys, y ∈ tipsD ++ turnsD) → Good s →
    ∃ s' z, Good s' ∧ loopE (.one 2) (asE 0 (aE F_law_step (consA (vE 0) (consA (vE 2) nilA)))) ys [some (sD' s), W, x] = some (.nx [some (sD' s'), W, z])
  | [], s, _, x, _, g => ⟨s, x, g, rfl⟩
  | y :: ys, s, W, x, h, g => by
    obtain ⟨s1, g1, e1⟩ := step12 (h y List.mem_cons_self) g
    obtain ⟨s', z, g', hy⟩ := loop12 ys s1 W (some y) (fun k hk => h k (List.mem_cons_of_mem _ hk)) g1
    refine ⟨s', z, g', ?_⟩
    unfold loopE
    have e : asE 0 (aE F_law_step (consA (vE 0) (consA (vE 2) nilA))) [some (sD' s), W, some y] = some (.nx [some (sD' s1), W, some y]) := by
      unfold asE
      rw [show aE F_law_step (consA (vE 0) (consA (vE 2) nilA)) [some (sD' s), W, some y] = _ from e1]
      rfl
    show (match asE 0 (aE F_law_step (consA (vE 0) (consA (vE 2) nilA))) [some (sD' s), W, some y] with | some (.nx ρ2) => _ | r => r) = _
    rw [e]
    exact hy
theorem behind12 {ys : List D} (h : ∀ y ∈ ys, y ∈ tipsD ++ turnsD) {s : Sd} (g : Good s) : ∃ s', Good s' ∧ F_law_behind [sD' s, .tuple ys] = some (sD' s') := by
  obtain ⟨s', z, g', hy⟩ := loop12 ys s (some (.tuple ys)) none h g
  refine ⟨s', g', ?_⟩
  unfold F_law_behind
  rw [run2]
  exact end_nx hy (end_rt rfl)
def preNone (ds : List D) : Prop := ds = []
def resSome (_ : List D) (d : D) : Prop := ∃ s, Good s ∧ d = sD' s
theorem sc_law_somewhere : FnScope ["_law_tin"] ["_law_tin"] (defScope (topS 75)) := ⟨rfl, rfl, rfl, by decide +kernel, rfl, by decide +kernel, by decide +kernel⟩
section
variable {P : Program} {w : World} {K : PySem.W.Frag} {mg : Str → Option Value} {base : Heap}
theorem cal_somewhere (B : Bt mg) (F : Df K mg "_law_somewhere" (topS 75) ["_law_tin"]) (cT : CalN P w K mg base 1 "_law_take" 1 preTake resTake) (cW : CalN P w K mg base 3 "_law_walk" 10 preWalk resWalk)
    (c_behind : Cal P w K mg base 4 "_law_behind" F_law_behind) (c_home : Cal P w K mg base 1 "_law_home" F_law_home) (c_tips : Cal P w K mg base 1 "_law_tips" F_law_tips) (c_turns : Cal P w K mg base 1 "_law_turns" F_law_turns) : CalN P w K mg base 5 "_law_somewhere" 11 preNone resSome := by
  obtain ⟨f, fd, F, hm, hbi⟩ := F.ex
  obtain ⟨f1, fd1, ps1, F1, m1, k1, b1⟩ := cT.ex
  obtain ⟨f2, fd2, ps2, F2, m2, k2, b2⟩ := cW.ex
  obtain ⟨f3, fd3, ps3, F3, m3, k3, b3⟩ := c_behind.ex
  refine ⟨f, fd, _, ?_, hm, F.kp, hbi⟩
  refine F.ok sc_law_somewhere (fun vs H Q E h => ?_) (fun cdv A outer s H vs Q E hr h => ?_)
  · obtain ⟨t, rest, G, ds, m, rfl, ra, T, hm, rfl, q⟩ := h
    cases ra
    rfl
  have nd := sc_law_somewhere.nd
  refine ⟨_, pss_one (ps_ret (pe_call F3 hr rfl m3 k3 b3 .nil pass0 (pa_cons (xcall0 c_home hr (by decide) rfl) (pa_cons (pe_call F2 (hr.mono (by decide)) rfl m2 k2 b2 .nil pass0 (pa_cons (pe_var (i := 0) rfl (Or.inl rfl)) (pa_cons (pe_call F1 (hr.mono (by decide)) rfl m1 k1 b1 .nil pass0 (pa_cons (pe_var (i := 0) rfl (Or.inl rfl)) (ac xc_int an)))
    (pa_cons (xo2 op_dAdd (xcall0 c_tips hr (by decide) rfl) (xcall0 c_turns hr (by decide) rfl)) pa_nil)))) pa_nil)))), ?_⟩
  obtain ⟨t, rest, G, ds, m, rfl, ra, T, hm, rfl, q⟩ := h
  cases ra
  have rs0 : Rs K G (L2.start ["_law_tin"] [.ref t]) [none] := rs_tin (n := 0) .nil rfl (Nat.le_refl _)
  refine ⟨G, _, sD' homeS, T.i, rs0, home_ev, fun v1 G1 H1 g1 r1 => ⟨.ref t, rfl, ?_⟩⟩
  have T1 := T.grow g1
  refine n_call (j := 0) (ds := [.int 7]) T1 (rs0.mono g1.g) rfl (by omega) rfl ⟨7, rfl, by decide, by decide⟩ fun d2 v2 G2 H2 hr2 gT2 t2 r2 => ?_
  obtain ⟨n, r, e, rfl, h0, h7⟩ := hr2
  cases e
  have T2 := T1.growT gT2 t2
  obtain ⟨k, rfl⟩ := Int.eq_ofNat_of_zero_le h0
  refine ⟨G2, _, .list (tipsD ++ turnsD), T2.i, (rs0.mono g1.g).mono gT2.g, ?_, fun v3 G3 H3 g3 r3 => ?_⟩
  · rw [o2_ev (x := .list tipsD) (y := .list turnsD) tips_ev turns_ev]
    rfl
  have T3 := T2.grow g3
  refine ⟨t, [v2, v3], G3, [.int (k : Nat), .list (tipsD ++ turnsD)], m + 1, rfl, .cons (Rp.mono g3.g _ _ r2) (.cons r3 .nil), T3, by omega, ⟨k, _, rfl, by omega, by decide, by decide⟩, fun d4 v4 G4 H4 hr4 gT4 t4 r4 => ?_⟩
  obtain ⟨k', gs, ys, e, rfl, hl, hys⟩ := hr4
  cases e
  have T4 := T3.growT gT4 t4
  obtain ⟨s', g', e'⟩ := behind12 hys good_home
  refine ⟨G4, [sD' homeS, .tuple ys], sD' s', gT4.i, .cons (Rp.mono (gT2.g.trans (g3.g.trans gT4.g)) _ _ r1) (.cons r4 .nil), e', fun v5 G5 H5 g5 r5 => ?_⟩
  exact q _ v5 G5 H5 ⟨s', g', rfl⟩ ((g1.toT T).trans (gT2.trans ((g3.toT T2).trans (gT4.trans (g5.toT T4))))) ((T4.grow g5).t.more (by omega)) r5
end
end Mv

/-! part U5 -/
set_option maxHeartbeats 4000000
namespace Mv
open PySem PySem.Spec L2

/-! ### _law_bent_spot -/
structure Near (s s' : Sd) : Prop where
  ex : ∃ (k : Nat) (dx dy : Int), k < 3 ∧ s'.x = s.x.upd k (· + dx) ∧ s'.y = s.y.upd k (· + dy) ∧ -2 ≤ dx ∧ dx ≤ 2 ∧ -2 ≤ dy ∧ dy ≤ 2 ∧ (dx = dy ∨ dx = 0 ∨ dy = 0)
theorem upd0 (v : V3) : v = v.upd 0 (· + 0) := by
  obtain ⟨a, b, c⟩ := v
  show _ = (⟨a + 0, b, c⟩ : V3)
  rw [Int.add_zero]
theorem updz (v : V3) (n : Nat) : v = v.upd n (· + 0) := by
  obtain ⟨a, b, c⟩ := v
  match n with
  | 0 => show _ = (⟨a + 0, b, c⟩ : V3); rw [Int.add_zero]
  | 1 => show _ = (⟨a, b + 0, c⟩ : V3); rw [Int.add_zero]
  | n + 2 => show _ = (⟨a, b, c + 0⟩ : V3); rw [Int.add_zero]
theorem plus_ev (v : V3) (n : Nat) (hn : n < 3) (z : Int) : F_law_plus [vD v, kN n, .int z] = some (vD (v.upd n (· + z))) := by
  match n, hn with
  | 0, _ => kernel_rfl
  | 1, _ => kernel_rfl
  | 2, _ => kernel_rfl
def posesD : List D := [pD .o012, pD .o210, pD .o201, pD .o102, pD .o120, pD .o021]
theorem poses_ev : F_law_poses [] = some (.list posesD) := by kernel_rfl
def bysD : List D := [.int (-2), .int (-1), .int 1, .int 2]
def preBent (ds : List D) : Prop := ∃ s, ds = [sD' s]
def resBent (ds : List D) (d : D) : Prop := ∃ s s', ds = [sD' s] ∧ d = sD' s' ∧ (Good s → Good s') ∧ Near s s'
def N_bent : List Str := ["_law_tin", "_law_spot", "_law_pose", "_law_xs_so", "_law_ys_so", "_law_looks_so", "_law_kind_so", "_law_k", "_law_by_so"]
theorem sc_law_bent : FnScope N_bent ["_law_tin", "_law_spot"] (defScope (topS 76)) := ⟨rfl, rfl, rfl, by decide +kernel, rfl, by decide +kernel, by decide +kernel⟩
theorem get_wipes {σ σ' : L2.St} {is : List Nat} (hw : wipe σ' is = wipe σ is) {i : Nat} (h : i ∉ is) : σ'[i]? = σ[i]? := by
  have e1 := wipe_get σ' i is
  have e2 := wipe_get σ i is
  rw [if_neg (fun z => h z.1)] at e1 e2
  rw [← e1, ← e2, hw]
section
variable {P : Program} {w : World} {K : PySem.W.Frag} {mg : Str → Option Value} {base : Heap}
theorem if_D {p : Ev → Option Bool} {u v : TS} {De : Ends} {σ : L2.St} {G H : Hp} {ρ : Ev} (b : Bool) (e : Same G H) (r : Rs K G σ ρ) (hp : p ρ = some b) (h1 : b = true → ∀ G1 H1, Grow G H G1 H1 → u De σ H1) (h2 : b = false → ∀ G1 H1, Grow G H G1 H1 → v De σ H1) : tIfS (bD p K) u v De σ H := by
  refine ⟨G, ρ, b, e, r, hp, fun G1 H1 g1 => ?_⟩
  cases b with
  | true => exact iteT (h1 rfl G1 H1 g1)
  | false => exact iteF (h2 rfl G1 H1 g1)
theorem cal_bent (B : Bt mg) (F : Df K mg "_law_bent_spot" (topS 76) ["_law_tin", "_law_spot"]) (cT : CalN P w K mg base 1 "_law_take" 1 preTake resTake) (cO : CalN P w K mg base 2 "_law_of" 1 preOf resOf)
    (c_flip : Cal P w K mg base 1 "_law_flip" F_law_flip) (c_plus : Cal P w K mg base 1 "_law_plus" F_law_plus) (c_poses : Cal P w K mg base 1 "_law_poses" F_law_poses) : CalN P w K mg base 3 "_law_bent_spot" 4 preBent resBent := by
  obtain ⟨f, fd, F, hm, hbi⟩ := F.ex
  obtain ⟨f1, fd1, ps1, F1, m1, k1, b1⟩ := cT.ex
  obtain ⟨f2, fd2, ps2, F2, m2, k2, b2⟩ := cO.ex
  refine ⟨f, fd, _, ?_, hm, F.kp, hbi⟩
  refine F.ok sc_law_bent (fun vs H Q E h => ?_) (fun cdv A outer s H vs Q E hr h => ?_)
  · obtain ⟨t, rest, G, ds, m, rfl, ra, T, hm, ⟨s0, rfl⟩, q⟩ := h
    rw [List.length_cons, ra.length]; rfl
  have nd := sc_law_bent.nd
  refine ⟨_, pss_cons (ps_asg (xv 1 rfl (Or.inl rfl)) (gt rfl (gn1 (pg_name (i := 2) nd rfl (Or.inl rfl)) (gn1 (pg_name (i := 3) nd rfl (Or.inl rfl)) (gn1 (pg_name (i := 4) nd rfl (Or.inl rfl)) (gn1 (pg_name (i := 5) nd rfl (Or.inl rfl)) gn0))))))
    (pss_cons (ps_par3 (i := 6) (j := 7) (l := 8) rfl nd rfl rfl rfl (by decide) (by decide) (by decide) rfl rfl rfl
      (pa_cons (pe_call F1 (hr.mono (by decide)) rfl m1 k1 b1 .nil pass0 (pa_cons (pe_var (i := 0) rfl (Or.inl rfl)) (ac xc_int an)))
      (pa_cons (pe_call F1 (hr.mono (by decide)) rfl m1 k1 b1 .nil pass0 (pa_cons (pe_var (i := 0) rfl (Or.inl rfl)) (ac xc_int an)))
      (pa_cons (pe_call F2 hr rfl m2 k2 b2 .nil pass0 (pa_cons (pe_var (i := 0) rfl (Or.inl rfl)) (ac (xlst (ac (xo1 un_dNeg xc_int) (ac (xo1 un_dNeg xc_int) (ac xc_int (ac xc_int an))))) an))) pa_nil))) rfl)
    (pss_cons (ps_if (tcmp (op_dEq hr.units) (xv 6 rfl (Or.inl rfl)) xc_int (nomark _)) (pss_one (ps_ret (pe_tup (pa_cons (pe_call F2 hr rfl m2 k2 b2 .nil pass0 (pa_cons (pe_var (i := 0) rfl (Or.inl rfl)) (ac (xcall0 c_poses hr (by decide) rfl) an))) (ac (xv 3 rfl (Or.inl rfl)) (ac (xv 4 rfl (Or.inl rfl)) (ac (xv 5 rfl (Or.inl rfl)) an))))))) pss_nil)
    (pss_cons (ps_if (tcmp (op_dEq hr.units) (xv 6 rfl (Or.inl rfl)) xc_int (nomark _)) (pss_one (ps_ret (xtup (ac (xv 2 rfl (Or.inl rfl)) (ac (xv 3 rfl (Or.inl rfl)) (ac (xv 4 rfl (Or.inl rfl)) (ac (xcall c_flip hr (by decide) rfl (ac (xv 5 rfl (Or.inl rfl)) (ac (xv 7 rfl (Or.inl rfl)) an))) an))))))) pss_nil)
    (pss_cons (ps_if (tcmp (op_dEq hr.units) (xv 6 rfl (Or.inl rfl)) xc_int (nomark _)) (pss_one (ps_ret (xtup (ac (xv 2 rfl (Or.inl rfl)) (ac (xcall c_plus hr (by decide) rfl (ac (xv 3 rfl (Or.inl rfl)) (ac (xv 7 rfl (Or.inl rfl)) (ac (xv 8 rfl (Or.inl rfl)) an)))) (ac (xv 4 rfl (Or.inl rfl)) (ac (xv 5 rfl (Or.inl rfl)) an))))))) pss_nil)
    (pss_cons (ps_if (tcmp (op_dEq hr.units) (xv 6 rfl (Or.inl rfl)) xc_int (nomark _)) (pss_one (ps_ret (xtup (ac (xv 2 rfl (Or.inl rfl)) (ac (xv 3 rfl (Or.inl rfl)) (ac (xcall c_plus hr (by decide) rfl (ac (xv 4 rfl (Or.inl rfl)) (ac (xv 7 rfl (Or.inl rfl)) (ac (xv 8 rfl (Or.inl rfl)) an)))) (ac (xv 5 rfl (Or.inl rfl)) an))))))) pss_nil)
    (pss_one (ps_ret (xtup (ac (xv 2 rfl (Or.inl rfl)) (ac (xcall c_plus hr (by decide) rfl (ac (xv 3 rfl (Or.inl rfl)) (ac (xv 7 rfl (Or.inl rfl)) (ac (xv 8 rfl (Or.inl rfl)) an)))) (ac (xcall c_plus hr (by decide) rfl (ac (xv 4 rfl (Or.inl rfl)) (ac (xv 7 rfl (Or.inl rfl)) (ac (xv 8 rfl (Or.inl rfl)) an)))) (ac (xv 5 rfl (Or.inl rfl)) an)))))))))))), ?_⟩
  obtain ⟨t, rest, G, ds, m, rfl, ra, T, hm, ⟨s0, rfl⟩, q⟩ := h
  have rs0 : Rs K G (L2.start N_bent (.ref t :: rest)) [none, some (sD' s0), none, none, none, none, none, none, none] := rs_tin (n := 8) ra rfl (by show 1 ≤ 8; decide)
  have h0 : (L2.start N_bent (.ref t :: rest))[0]? = some (some (.ref t)) := rfl
  generalize L2.start N_bent (.ref t :: rest) = σ at rs0 h0
  -- the four parts
  refine ⟨G, _, sD' s0, T.i, rs0, rfl, fun v G1 H1 g1 r1 => ?_⟩
  have T1 := T.grow g1
  refine ⟨G1, _, sD' s0, [none, some (sD' s0), some (pD s0.p), some (vD s0.x), some (vD s0.y), some (vD s0.f), none, none, none], g1.i, rs0.mono g1.g, r1, rfl, fun σ2 rs2 hw => ?_⟩
  have h02 : σ2[0]? = some (some (.ref t)) := (get_wipes (hw _ fun _ z => z) (by decide)).trans h0
  -- three draws
  refine n_call (j := 0) (ds := [.int 5]) T1 rs2 h02 (by omega) rfl ⟨5, rfl, by decide, by decide⟩ fun d3 v3 G3 H3 hr3 gT3 t3 r3 => ?_
  have T3 := T1.growT gT3 t3
  refine n_call (j := 0) (ds := [.int 3]) T3 (rs2.mono gT3.g) h02 (by omega) rfl ⟨3, rfl, by decide, by decide⟩ fun d4 v4 G4 H4 hr4 gT4 t4 r4 => ?_
  have T4 := T3.growT gT4 t4
  refine n_call (j := 0) (ds := [.list bysD]) T4 ((rs2.mono gT3.g).mono gT4.g) h02 (by omega) rfl ⟨bysD, rfl, by decide, by decide⟩ fun d5 v5 G5 H5 hr5 gT5 t5 r5 => ?_
  have T5 := T4.growT gT5 t5
  refine ⟨v3, v4, v5, rfl, ?_⟩
  obtain ⟨_, kind, e, rfl, hk0, hk5⟩ := hr3
  cases e
  obtain ⟨_, kk, e, rfl, hc0, hc3⟩ := hr4
  cases e
  obtain ⟨gs, e, hmem⟩ := hr5
  cases e
  obtain ⟨by_, rfl, hby1, hby2⟩ : ∃ z : Int, d5 = .int z ∧ -2 ≤ z ∧ z ≤ 2 := by
    simp only [bysD, List.mem_cons, List.not_mem_nil, or_false] at hmem
    rcases hmem with rfl | rfl | rfl | rfl
    · exact ⟨_, rfl, by decide, by decide⟩
    · exact ⟨_, rfl, by decide, by decide⟩
    · exact ⟨_, rfl, by decide, by decide⟩
    · exact ⟨_, rfl, by decide, by decide⟩
  obtain ⟨c, rfl⟩ := Int.eq_ofNat_of_zero_le hc0
  have hc : c < 3 := by omega
  have gA : GrowT t G H G5 H5 := (g1.toT T).trans (gT3.trans (gT4.trans gT5))
  have rs5 : Rs K G5 (((σ2.set 6 (some v3)).set 7 (some v4)).set 8 (some v5)) [none, some (sD' s0), some (pD s0.p), some (vD s0.x), some (vD s0.y), some (vD s0.f), some (.int kind), some (kN c), some (.int by_)] :=
    (((rs2.mono (gT3.g.trans (gT4.g.trans gT5.g))).set 6 (Rp.mono (gT4.g.trans gT5.g) _ _ r3)).set 7 (Rp.mono gT5.g _ _ r4)).set 8 r5
  have h05 : (((σ2.set 6 (some v3)).set 7 (some v4)).set 8 (some v5))[0]? = some (some (.ref t)) := by
    rw [List.getElem?_set_ne (by decide), List.getElem?_set_ne (by decide), List.getElem?_set_ne (by decide)]; exact h02
  generalize ((σ2.set 6 (some v3)).set 7 (some v4)).set 8 (some v5) = σ5 at rs5 h05
  have t5' : TinAt H5 t (m + 3) := t5.more (by omega)
  -- an answer of plain data
  have fin : ∀ {G6 H6 : Hp}, Grow G5 H5 G6 H6 → ∀ {g : Ev → Option D} {s' : Sd}, g [none, some (sD' s0), some (pD s0.p), some (vD s0.x), some (vD s0.y), some (vD s0.f), some (.int kind), some (kN c), some (.int by_)] = some (sD' s') → (Good s0 → Good s') → Near s0 s' → tD K g σ5 H6 Q := fun {G6 H6} g6 {g s'} hg hgood hnear =>
    ⟨G6, _, sD' s', g6.i, rs5.mono g6.g, hg, fun v7 G7 H7 g7 r7 => q _ v7 G7 H7 ⟨s0, s', rfl, rfl, hgood, hnear⟩ (gA.trans (((g6.trans g7)).toT T5)) (((T5.grow (g6.trans g7)).t).more (by omega)) r7⟩
  have eqk : ∀ z : Int, toB (o2 dEq (vE 6) (cE (.int z))) [none, some (sD' s0), some (pD s0.p), some (vD s0.x), some (vD s0.y), some (vD s0.f), some (.int kind), some (kN c), some (.int by_)] = some (decide (kind = z)) := fun z => toB_ev (dEq_int _ _)
  refine if_D (decide (kind = 0)) T5.i rs5 (eqk 0) (fun _ G6 H6 g6 => ?_) fun _ G6 H6 g6 => ?_
  · have T6 := T5.grow g6
    refine n_call (j := 0) (ds := [.list posesD]) T6 (rs5.mono g6.g) h05 (by omega) (consA_ev poses_ev rfl) ⟨posesD, rfl, by decide, by decide⟩ fun d7 v7 G7 H7 hr7 gT7 t7 r7 => ?_
    have T7 := T6.growT gT7 t7
    obtain ⟨gs, e, hmem⟩ := hr7
    cases e
    obtain ⟨p', rfl⟩ : ∃ p', d7 = pD p' := by
      simp only [posesD, List.mem_cons, List.not_mem_nil, or_false] at hmem
      rcases hmem with rfl | rfl | rfl | rfl | rfl | rfl <;> exact ⟨_, rfl⟩
    refine ⟨G7, _, [vD s0.x, vD s0.y, vD s0.f], T7.i, (rs5.mono g6.g).mono gT7.g, rfl, fun vs8 G8 H8 g8 r8 => ⟨by rw [List.length_cons, r8.length]; show 4 ≤ sizeLine; decide, fun p hp => ?_⟩⟩
    have g9 := g8.trans (Grow.new (p := p) (o := .tup (v7 :: vs8)) g8.i hp)
    refine q (sD' ⟨p', s0.x, s0.y, s0.f⟩) (.ref p) _ _ ⟨s0, ⟨p', s0.x, s0.y, s0.f⟩, rfl, rfl, fun g => ⟨g.a, g.b, g.c⟩, ⟨0, 0, 0, by decide, updz _ _, updz _ _, by decide, by decide, by decide, by decide, .inl rfl⟩⟩ (gA.trans ((g6.toT T5).trans (gT7.trans (g9.toT T7)))) ((T7.grow g9).t.more (by omega)) ?_
    exact .tup (.inl (.inl upd_same)) (RpAll.mono (same_new (g8.i.free hp)) _ _ (.cons (Rp.mono g8.g _ _ r7) r8))
  show tSeq _ _ _ σ5 H6
  refine if_D (decide (kind = 1)) g6.i (rs5.mono g6.g) (eqk 1) (fun _ G7 H7 g7 => ?_) fun _ G7 H7 g7 => ?_
  · refine fin (g6.trans g7) (s' := ⟨s0.p, s0.x, s0.y, ng s0.f c⟩) (aE_ev (ds := [pD s0.p, vD s0.x, vD s0.y, vD (ng s0.f c)]) (consA_ev rfl (consA_ev rfl (consA_ev rfl (consA_ev (flip_ev s0.f c hc) rfl)))) rfl) (fun g => ?_) ⟨0, 0, 0, by decide, updz _ _, updz _ _, by decide, by decide, by decide, by decide, .inl rfl⟩
    obtain ⟨h1, h2, h3⟩ := good_upd g.a g.b g.c c
    exact ⟨h1, h2, h3⟩
  show tSeq _ _ _ σ5 H7
  refine if_D (decide (kind = 2)) g7.i ((rs5.mono g6.g).mono g7.g) (eqk 2) (fun _ G8 H8 g8 => ?_) fun _ G8 H8 g8 => ?_
  · exact fin (g6.trans (g7.trans g8)) (s' := ⟨s0.p, s0.x.upd c (· + by_), s0.y, s0.f⟩) (aE_ev (ds := [pD s0.p, vD (s0.x.upd c (· + by_)), vD s0.y, vD s0.f]) (consA_ev rfl (consA_ev (plus_ev s0.x c hc by_) (consA_ev rfl (consA_ev rfl rfl)))) rfl) (fun g => ⟨g.a, g.b, g.c⟩) ⟨c, by_, 0, hc, rfl, updz _ _, hby1, hby2, by decide, by decide, .inr (.inr rfl)⟩
  show tSeq _ _ _ σ5 H8
  refine if_D (decide (kind = 3)) g8.i (((rs5.mono g6.g).mono g7.g).mono g8.g) (eqk 3) (fun _ G9 H9 g9 => ?_) fun _ G9 H9 g9 => ?_
  · exact fin (g6.trans (g7.trans (g8.trans g9))) (s' := ⟨s0.p, s0.x, s0.y.upd c (· + by_), s0.f⟩) (aE_ev (ds := [pD s0.p, vD s0.x, vD (s0.y.upd c (· + by_)), vD s0.f]) (consA_ev rfl (consA_ev rfl (consA_ev (plus_ev s0.y c hc by_) (consA_ev rfl rfl)))) rfl) (fun g => ⟨g.a, g.b, g.c⟩) ⟨c, 0, by_, hc, updz _ _, rfl, by decide, by decide, hby1, hby2, .inr (.inl rfl)⟩
  · exact fin (g6.trans (g7.trans (g8.trans g9))) (s' := ⟨s0.p, s0.x.upd c (· + by_), s0.y.upd c (· + by_), s0.f⟩) (aE_ev (ds := [pD s0.p, vD (s0.x.upd c (· + by_)), vD (s0.y.upd c (· + by_)), vD s0.f]) (consA_ev rfl (consA_ev (plus_ev s0.x c hc by_) (consA_ev (plus_ev s0.y c hc by_) (consA_ev rfl rfl)))) rfl) (fun g => ⟨g.a, g.b, g.c⟩) ⟨c, by_, by_, hc, rfl, rfl, hby1, hby2, hby1, hby2, .inl rfl⟩
end
end Mv

/-! part W1 -/
set_option maxHeartbeats 4000000
namespace Mv
open PySem PySem.Spec L2

/-! ### the plain law of _law_right -/
theorem ms_of : ∀ {ys : List D}, (∀ y ∈ ys, y ∈ turnsD) → ∃ ms : List Nat, ys = ms.map mvD ∧ ∀ m ∈ ms, m < 8
  | [], _ => ⟨[], rfl, fun _ z => by cases z⟩
  | y :: ys, h => by
    obtain ⟨ms, e, hm⟩ := ms_of (ys := ys) fun k hk => h k (List.mem_cons_of_mem _ hk)
    obtain ⟨m, hm1, e1⟩ := List.mem_map.mp (h y List.mem_cons_self)
    refine ⟨m :: ms, by rw [e, ← e1]; rfl, fun k hk => ?_⟩
    rcases List.mem_cons.mp hk with rfl | hk
    · exact turnsN_lt _ hm1
    · exact hm k hk
theorem D4_mv : ∀ m, m < 8 → D4 (mv m) = 1 ∧ pairB (mv m) = true := by decide
theorem qrun_go : ∀ (ms : List Nat) (r : Q4), (∀ m ∈ ms, m < 8) → pairB r = true → pairB (ms.foldl (fun r m => cmp r (mv m)) r) = true ∧ D4 (ms.foldl (fun r m => cmp r (mv m)) r) ≤ D4 r + (ms.length : Int)
  | [], r, _, h => ⟨h, by show D4 r ≤ D4 r + ((0 : Nat) : Int); omega⟩
  | m :: ms, r, hm, h => by
    obtain ⟨h1, h2⟩ := D4_mv m (hm m List.mem_cons_self)
    obtain ⟨g1, g2⟩ := qrun_go ms (cmp r (mv m)) (fun k hk => hm k (List.mem_cons_of_mem _ hk)) (pair_cmp h h2)
    have := D4_cmp r (mv m)
    refine ⟨g1, ?_⟩
    show D4 (ms.foldl (fun r m => cmp r (mv m)) (cmp r (mv m))) ≤ D4 r + ((ms.length + 1 : Nat) : Int)
    omega
theorem qrun_ok {ms : List Nat} (hm : ∀ m ∈ ms, m < 8) : pairB (qrun ms) = true ∧ D4 (qrun ms) ≤ (ms.length : Int) := by
  have h := qrun_go ms q0 hm rfl
  have e : D4 q0 = 0 := rfl
  rw [e, Int.zero_add] at h
  exact h
theorem get_upd (v : V3) (k n : Nat) (hk : k < 3) (hn : n < 3) (f : Int → Int) : (v.upd k f).get n = if n = k then f (v.get n) else v.get n := by
  have h1 : k = 0 ∨ k = 1 ∨ k = 2 := by omega
  have h2 : n = 0 ∨ n = 1 ∨ n = 2 := by omega
  rcases h1 with rfl | rfl | rfl <;> rcases h2 with rfl | rfl | rfl <;> rfl
theorem ij_ne (p : Po) : p.i ≠ p.j := by cases p <;> decide
theorem near_D4 {s t t' : Sd} {r q : Q4} (h : t = slnt s r) (hr : D4 r ≤ 1) (n : Near t t') (hq : pairB q = true) (h' : t' = slnt s q) : D4 q ≤ 4 := by
  obtain ⟨k, dx, dy, hk, ex, ey, a1, a2, b1, b2, hc⟩ := n.ex
  have x1 := slnt_x s r
  have y1 := slnt_y s r
  have x2 := slnt_x s q
  have y2 := slnt_y s q
  rw [← h] at x1 y1
  rw [← h'] at x2 y2
  have hi := Po.i_lt s.p
  have hj := Po.j_lt s.p
  have ne := ij_ne s.p
  rw [ex, ey, get_upd _ _ _ hk hi, get_upd _ _ _ hk hj] at *
  obtain ⟨xi, xj, _⟩ := x1
  obtain ⟨yi, yj, _⟩ := y1
  obtain ⟨xi', xj', _⟩ := x2
  obtain ⟨yi', yj', _⟩ := y2
  have m1 := mx_spec r.a r.b
  have m2 := mx_spec r.c r.d
  have m3 := mx_spec q.a q.b
  have m4 := mx_spec q.c q.d
  unfold D4 at hr ⊢
  by_cases e1 : s.p.i = k
  · have e2 : ¬ s.p.j = k := fun z => ne (e1.trans z.symm)
    rw [if_pos e1] at xi' yi'
    rw [if_neg e2] at xj' yj'
    have q1 : 2 * q.a = 2 * r.a + dx + dy := by omega
    have q2 : 2 * q.d = 2 * r.d + dx - dy := by omega
    have q3 : q.c = r.c := by omega
    have q4 : q.b = r.b := by omega
    omega
  · rw [if_neg e1] at xi' yi'
    have q1 : q.a = r.a := by omega
    have q2 : q.d = r.d := by omega
    by_cases e2 : s.p.j = k
    · rw [if_pos e2] at xj' yj'
      have q3 : 2 * q.c = 2 * r.c + dx + dy := by omega
      have q4 : 2 * q.b = 2 * r.b + dx - dy := by omega
      omega
    · rw [if_neg e2] at xj' yj'
      have q3 : q.c = r.c := by omega
      have q4 : q.b = r.b := by omega
      omega
theorem meet_cases {n : Nat} (F : Fl n) (hn : n ≤ 3) {s t : Sd} (hD : ∀ q, pairB q = true → t = slnt s q → D4 q ≤ 2 * (n : Int)) :
    (barB s t ≠ "" ∧ meetD ((Lq n).map (rE s)) ((Lq n).map (rE t)) = some .none) ∨
    ∃ q m, t = slnt s q ∧ pairB q = true ∧ D4 q ≤ 2 * (n : Int) ∧ barB s t = "" ∧ qS s t = q ∧ meetD ((Lq n).map (rE s)) ((Lq n).map (rE t)) = some (.tuple [.int (D4 q), .int m]) := by
  by_cases hb : barB s t = ""
  · obtain ⟨hp, e⟩ := bar_none hb
    obtain ⟨m, hm⟩ := meet_yes F hn e hp (hD _ hp e)
    exact .inr ⟨qS s t, m, e, hp, hD _ hp e, hb, rfl, hm⟩
  · refine .inl ⟨hb, meet_no F fun q hq e => hb ?_⟩
    rw [e]
    exact bar_slnt s q hq
/-! ### the turns that come nearer, read from the far levels -/
def farL (q : Q4) (m : Nat) : D := match lookQ (Lq 3) (cmp (inv q) (mv m)) with
  | some (l, c) => lc l c
  | none => .tuple [.int 9, .int 0]
theorem rel_sym (q r : Q4) : D4 (cmp (inv q) r) = D4 (cmp (inv r) q) := by
  rw [rel_D4, rel_D4]
  have e1 := mx_neg (r.a - q.a) (r.b - q.b)
  have e2 := mx_neg (r.c - q.c) (r.d - q.d)
  rw [← e1, ← e2]
  have z : ∀ a b : Int, -(a - b) = b - a := fun a b => by omega
  rw [z, z, z, z]
theorem far_look {s t : Sd} {q : Q4} (h : t = slnt s q) {m : Nat} (hm : m < 8) : lookE ((Lq 3).map (rE t)) (sK (tn s m)) = lookQ (Lq 3) (cmp (inv q) (mv m)) := by
  rw [tn_slnt s m hm, slnt_rel h (mv m), look_sim]
theorem far_ev {q : Q4} (hp : pairB q = true) (hd : D4 q ≤ 4) {m : Nat} (hm : m < 8) : ∃ l : Int, dIx (farL q m) (.int 0) = some (.int l) ∧ (decide (l = D4 q - 1)) = decide (D4 (cmp (inv (mv m)) q) < D4 q) := by
  obtain ⟨h1, h2⟩ := D4_mv m hm
  have ht := tri (q := q) (r := mv m)
  rw [← rel_sym q (mv m)]
  unfold farL
  cases hl : lookQ (Lq 3) (cmp (inv q) (mv m)) with
  | some lc =>
    obtain ⟨l, c⟩ := lc
    obtain ⟨_, hl2, _⟩ := fl3.look hl
    refine ⟨l, rfl, ?_⟩
    by_cases e : l = D4 q - 1
    · rw [decide_eq_true e, decide_eq_true (by omega)]
    · rw [decide_eq_false e, decide_eq_false (by omega)]
  | none =>
    refine ⟨9, rfl, ?_⟩
    have : ¬ D4 (cmp (inv q) (mv m)) ≤ (3 : Nat) := fun z => by
      obtain ⟨c, hc⟩ := fl3.at_ (pair_cmp (pair_inv hp) h2) z
      rw [hl] at hc; cases hc
    rw [decide_eq_false (by omega), decide_eq_false (by omega)]
def sortedTurnsD : List D := (List.range 8).map mvD
end Mv

/-! part W2 -/
set_option maxHeartbeats 4000000
namespace Mv
open PySem PySem.Spec L2

/-! ### readings for _law_right -/
section
variable {K : PySem.W.Frag} {P : Program} {w : World} {G H G' H' : Hp} {σ : L2.St} {ρ : Ev} {t a : Addr} {m : Int} {Q : VK}
theorem frz_grow {od : Obj} {o : HO} (g : Grow G H G' H') (h : H a = none) (h' : G' a = none) (hx : H' a = some o) : Grow G H (upd G' a (.frz od o)) (upd H' a (.frz od o)) := by
  refine ⟨g.g.trans (same_new h'), fun b u e => ?_, fun b u e => ?_, fun b h1 h2 => ?_⟩
  · by_cases hb : b = a
    · rw [hb, upd_same] at e ⊢; exact e
    · rw [upd_ne hb] at e ⊢; exact g.i _ _ e
  · rw [upd_ne (fun z => by rw [z, h] at e; cases e)]; exact g.h _ _ e
  · rw [upd_ne (fun z => mut_none h1 (by rw [z]; exact h))]; exact g.n b h1 h2
/-- _law_levels(..), and then locked -/
theorem lev_call {hx : Ev → Option (List D)} {first : D} {steps : List D} {n : Nat} {es : Dd} (e : Same G H) (r : Rs K G σ ρ) (hh : hx ρ = some [first, .list steps, .int (n : Nat)]) (hn : n ≤ 65536) (hl : levelsD first steps n = some es)
    (q : ∀ b od xs G' H', Grow G H G' H' → Fz P w G' b od xs → EntD K G' xs es → Q (.ref b) H') : tFz (tCall (spLev K P w) [] E0 (aD K hx)) σ H Q := by
  refine ⟨G, ρ, _, e, r, hh, fun vs G1 H1 g1 r1 => ?_⟩
  show spLev K P w (vs ++ []) H1 _ E0
  rw [List.append_nil]
  refine ⟨G1, first, steps, n, es, g1.i, r1, hn, hl, fun b xs G2 H2 g2 h0 h1 h2 ent => ?_⟩
  refine ⟨b, _, h2, trivial, fun od => ?_⟩
  have g3 := frz_grow (od := od) g2 h0 h1 h2
  exact q b od xs _ _ (g1.trans g3) upd_same (ent.mono (same_new h1))
theorem meet_call {i j : Nat} {es fs : Dd} {d : D} (e : Same G H) (S : DkS K P w G σ i es) (S' : DkS K P w G σ j fs) (hm : meetD es fs = some d) (q : ∀ v G' H', Grow G H G' H' → Rp K G' v d → Q v H') :
    tCall (spMeet K P w) [] E0 (tCons (tVar i) (tCons (tVar j) tNil)) σ H Q := by
  obtain ⟨a, oa, xs, a1, a2, a3⟩ := S
  obtain ⟨b, ob, ys, b1, b2, b3⟩ := S'
  exact ⟨.ref a, a1, .ref b, b1, G, a, oa, xs, b, ob, ys, es, fs, d, rfl, e, a2, a3, b2, b3, hm, q⟩
/-- d.get(key, none)[0] == z, d locked at slot j -/
theorem get2_test {fs : Dd} {fk fn fz : Ev → Option D} {j : Nat} {kd nd : D} {k : NestedKey} {l z : Int} {Qb : Bool → Hp → Prop} (e : Same G H) (r : Rs K G σ ρ) (S : DkS K P w G σ j fs) (hk : fk ρ = some kd) (ht : ∃ xs, kd = .tuple xs) (hkn : keyN 8 kd = some k) (hn : fn ρ = some nd) (hz : fz ρ = some (.int z))
    (hl : dIx (match lookE fs k with | some u => lc u.1 u.2 | none => nd) (.int 0) = some (.int l)) (q : ∀ G' H', Grow G H G' H' → Qb (decide (l = z)) H') :
    tTest (tOp (rD2 K dEq) (tOp (rD2 K dIx) (tKGet2 K P w (tVar j) (tD K fk) (tD K fn)) (tD K (cE (.int 0)))) (tD K fz)) σ H Qb := by
  obtain ⟨a, o, xs, h1, h2, h3⟩ := S
  refine ⟨.ref a, h1, a, xs, rfl, .inr ⟨o, e _ _ h2⟩, G, ρ, kd, e, r, hk, fun y G1 H1 g1 r1 => ⟨G1, ρ, nd, g1.i, r.mono g1.g, hn, fun u G2 H2 g2 r2 => ?_⟩⟩
  obtain ⟨b, rfl⟩ := key_ref hkn r1 ht
  have s2 := g1.g.trans g2.g
  refine ⟨k, ⟨.inr ⟨o, g2.i _ _ (s2 _ _ h2)⟩, (h3.mono s2).keys g2.i, b, kd, rfl, hkn, Rp.mono (g2.g.trans g2.i) _ _ r1⟩, ?_⟩
  have rv : Rp K G2 ((lookK xs k).getD u) (match lookE fs k with | some u => lc u.1 u.2 | none => nd) := by
    rcases (h3.mono s2).look k with ⟨e1, e2⟩ | ⟨v, l', c', e1, e2, rv⟩
    · rw [e1, e2]; exact r2
    · rw [e1, e2]; exact rv
  refine ⟨G2, ρ, .int 0, g2.i, r.mono s2, rfl, fun y G3 H3 g3 r3 => ?_⟩
  refine ⟨G3, _, .int 0, .int l, g3.i, Rp.mono g3.g _ _ rv, r3, hl, fun v G4 H4 g4 r4 => ?_⟩
  refine ⟨G4, ρ, .int z, g4.i, r.mono (s2.trans (g3.g.trans g4.g)), hz, fun v5 G5 H5 g5 r5 => ?_⟩
  refine ⟨G5, .int l, .int z, .bool (decide (l = z)), g5.i, Rp.mono g5.g _ _ r4, r5, dEq_int _ _, fun v6 G6 H6 g6 r6 => ?_⟩
  cases r6
  exact ⟨_, rfl, q G6 H6 (g1.trans (g2.trans (g3.trans (g4.trans (g5.trans g6)))))⟩
/-- [x for x in data if test(x)] -/
theorem lc_filt {fi : Ev → Option (List D)} {tt : TT} {j : Nat} {ds : List D} (p : D → Bool) (e : Same G H) (r : Rs K G σ ρ) (hi : fi ρ = some ds) (hl : ds.length ≤ 1000) (hj : ∀ d : D, nth (stE (wipeE ρ [j]) j (some d)) j = some d)
    (ht : ∀ d ∈ ds, ∀ G3 H3 σ2, Same G G3 → Same G3 H3 → wipe σ2 [j] = wipe σ [j] → Rs K G3 σ2 (stE (wipeE ρ [j]) j (some d)) → ∀ Q' : Bool → Hp → Prop, (∀ G4 H4, Grow G3 H3 G4 H4 → Q' (p d) H4) → tt σ2 H3 Q')
    (q : ∀ (v : V) (G' H' : Hp), Grow G H G' H' → Rp K G' v (.list (ds.filter p)) → Q v H') :
    tLc (iD K fi) (gD K (.one j)) tt (tD K (vE j)) [j] σ H Q := by
  refine ⟨G, ρ, ds, e, r, hi, fun J G1 H1 g1 it => ?_⟩
  intro Dd hD
  let W0 : Nat → Hp → Prop := fun i H2 => i ≤ ds.length ∧ ∃ (G2 : Hp) (acc : List V), Same G1 G2 ∧ Same G2 H2 ∧ (∀ b o, H1 b = some o → H2 b = some o) ∧ (∀ b, Mut (H1 b) → G1 b = none → G2 b = none) ∧ G2 Dd = none ∧ H2 Dd = some (.lst acc) ∧ RpAll K G2 acc ((ds.take i).filter p) ∧ acc.length ≤ i
  have g2 := Grow.side (p := Dd) (o := .lst []) g1.i hD
  refine ⟨fun i n H2 => n = ds.length - i ∧ W0 i H2, ⟨_, rfl, Nat.zero_le _, G1, [], Same.refl _, g2.i, g2.h, fun _ _ z => z, g1.i.free hD, upd_same, .nil, Nat.le_refl _⟩, ?_⟩
  rintro i n H2 ⟨rfl, hik, G2, acc, s12, s22, hh, hn, gD', hacc, ra, hal⟩
  by_cases hlt : i < ds.length
  · have hd : ds[i]? = some ds[i] := List.getElem?_eq_getElem hlt
    obtain ⟨hgo, hy⟩ := it.go G2 H2 i _ s12 s22 hd
    refine .inr ⟨hgo, W0 (i + 1), fun H' w => ⟨ds.length - (i + 1), by omega, rfl, w⟩, fun x H' yl => ?_⟩
    obtain ⟨G3, g3, rx⟩ := hy x H' yl
    have sG3 : Same G G3 := g1.g.trans (s12.trans g3.g)
    refine ⟨G3, wipeE ρ [j], _, _, g3.i, (r.mono sG3).wipe [j], rx, rfl, fun σ2 r2 hw => ⟨(hw [j] (by intro z hz; exact hz)).trans (wipe_wipe σ [j]), ?_⟩⟩
    have hw2 : wipe σ2 [j] = wipe σ [j] := (hw [j] (by intro z hz; exact hz)).trans (wipe_wipe σ [j])
    have ac3 : H' Dd = some (.lst acc) := g3.h _ _ hacc
    have nG3 : G3 Dd = none := g3.n Dd (by rw [hacc]; trivial) gD'
    have htk : ds.take (i + 1) = ds.take i ++ [ds[i]] := (List.take_append_getElem hlt).symm
    refine ht ds[i] (List.getElem_mem hlt) G3 H' σ2 sG3 g3.i hw2 r2 _ fun G4 H4 g4 => ?_
    have g34 := g3.trans g4
    cases hp : p ds[i] with
    | true =>
      refine iteT ?_
      refine ⟨G4, _, ds[i], g4.i, r2.mono g4.g, hj _, fun v G5 H5 g5 r5 => ?_⟩
      have g35 := g34.trans g5
      have acc5 : H5 Dd = some (.lst acc) := g35.h _ _ hacc
      have nG : G5 Dd = none := g35.n Dd (by rw [hacc]; trivial) gD'
      refine ⟨acc, acc5, Nat.lt_of_le_of_lt (Nat.le_trans hal (Nat.le_of_lt (Nat.lt_of_lt_of_le hlt hl))) (by decide), hlt, G5, acc ++ [v], s12.trans g35.g, fun b o e => ?_, fun b o e => ?_, fun b h1 h2 => ?_, nG, upd_same, ?_, by rw [List.length_append]; exact Nat.succ_le_succ hal⟩
      · rw [upd_ne (fun z => by rw [z, nG] at e; cases e)]; exact g35.i _ _ e
      · rw [upd_ne (fun z => by rw [z, hD] at e; cases e)]; exact g35.h _ _ (hh _ _ e)
      · refine g35.n b ?_ (hn b h1 h2)
        cases q : H1 b with
        | none => rw [q] at h1; exact h1.elim
        | some o => rw [hh b o q, ← q]; exact h1
      · rw [htk, List.filter_append, List.filter_cons_of_pos hp]
        exact (RpAll.mono g35.g _ _ ra).append (.cons r5 .nil)
    | false =>
      refine iteF ⟨hlt, G4, acc, s12.trans g34.g, g34.i, fun b o e => g34.h _ _ (hh _ _ e), fun b h1 h2 => ?_, g34.n Dd (by rw [hacc]; trivial) gD', g34.h _ _ hacc, ?_, Nat.le_succ_of_le hal⟩
      · refine g34.n b ?_ (hn b h1 h2)
        cases q : H1 b with
        | none => rw [q] at h1; exact h1.elim
        | some o => rw [hh b o q, ← q]; exact h1
      · rw [htk, List.filter_append, List.filter_cons_of_neg (by rw [hp]; decide), List.filter_nil, List.append_nil]
        exact RpAll.mono g34.g _ _ ra
  · have ei : i = ds.length := by omega
    subst ei
    refine .inl ⟨it.stop G2 H2 s12 s22, ?_⟩
    rw [List.take_length] at ra
    have sG : Same G2 (upd G2 Dd (.lst acc)) := same_new gD'
    refine q (.ref Dd) (upd G2 Dd (.lst acc)) H2 ⟨g1.g.trans (s12.trans sG), fun b o e => ?_, fun b o e => hh _ _ (g1.h _ _ e), fun b h1 h2 => ?_⟩ (.lst upd_same (RpAll.mono sG _ _ ra))
    · by_cases hb : b = Dd
      · rw [hb, upd_same] at e; rw [hb, hacc]; exact e
      · rw [upd_ne hb] at e; exact s22 _ _ e
    · have nb : b ≠ Dd := fun z => mut_none h1 (by rw [z]; exact g1.h.free hD)
      rw [upd_ne nb]
      exact hn b (mut_same g1.h h1) (g1.n b h1 h2)
end
end Mv

/-! part W3 -/
set_option maxHeartbeats 4000000
namespace Mv
open PySem PySem.Spec L2
section
variable {te : TE} {a b u : TS} {c : TT} {g : TG} {De : Ends} {σ : L2.St} {H : Hp} {i : Nat}
theorem seq_set (h : te σ H fun v H1 => u De (σ.set i (some v)) H1) : tSeq (tAsg te (gName i)) u De σ H := h
theorem seq_asg (h : te σ H fun v H1 => g v σ H1 (u De)) : tSeq (tAsg te g) u De σ H := h
theorem seq_if (h : tIfS c a b { De with nx := u De } σ H) : tSeq (tIfS c a b) u De σ H := h
theorem seq_join (J : L2.St → Hp → Prop) (h2 : ∀ σ H, J σ H → u De σ H) (h1 : (∀ σ H, J σ H → u De σ H) → tIfS c a b { De with nx := u De } σ H) : tSeq (tIfS c a b) u De σ H := h1 h2
end
theorem sD_inj {s t : Sd} (h : sD' s = sD' t) : s = t := by
  have e := keyT_sD s
  rw [h, keyT_sD t] at e
  exact (sK_inj (Option.some.inj e)).symm
theorem tup_of {t : TA} {σ : L2.St} {H : Hp} {Q : VK} (h : t σ H fun xs H1 => xs.length ≤ sizeLine ∧ ∀ p, H1 p = none → Q (.ref p) (upd H1 p (.tup xs))) : tTup t σ H Q := h
theorem cons_of {ta : TE} {tr : TA} {σ : L2.St} {H : Hp} {Q : List V → Hp → Prop} (h : ta σ H fun x H1 => tr σ H1 fun xs H2 => Q (x :: xs) H2) : tCons ta tr σ H Q := h
/-- a state with the tin at slot 0 -/
structure RtS (K : PySem.W.Frag) (t : Addr) (m : Int) (G H : Hp) (σ : L2.St) (ρ : Ev) : Prop where
  T : Tn t m G H
  rs : Rs K G σ ρ
  h0 : σ[0]? = some (some (.ref t))
section
variable {K : PySem.W.Frag} {P : Program} {w : World} {G H G' H' : Hp} {σ σ' : L2.St} {ρ ρ' : Ev} {t : Addr} {m m' : Int} {Q : VK} {v : V} {d : D} {j : Nat} {De : Ends} {u : TS} {es : Dd}
theorem RtS.grow (S : RtS K t m G H σ ρ) (g : Grow G H G' H') : RtS K t m G' H' σ ρ := ⟨S.T.grow g, S.rs.mono g.g, S.h0⟩
theorem RtS.growT (S : RtS K t m G H σ ρ) (g : GrowT t G H G' H') (h : TinAt H' t m') : RtS K t m' G' H' σ ρ := ⟨S.T.growT g h, S.rs.mono g.g, S.h0⟩
theorem RtS.set (S : RtS K t m G H σ ρ) (j : Nat) (hj : j ≠ 0) (r : Rp K G v d) : RtS K t m G H (σ.set j (some v)) (stE ρ j (some d)) :=
  ⟨S.T, S.rs.set j r, by rw [List.getElem?_set_ne hj]; exact S.h0⟩
theorem RtS.unset (S : RtS K t m G H σ ρ) (j : Nat) (hj : j ≠ 0) (y : Option V) : RtS K t m G H (σ.set j y) (stE ρ j none) :=
  ⟨S.T, S.rs.unset j y, by rw [List.getElem?_set_ne hj]; exact S.h0⟩
theorem RtS.more (S : RtS K t m G H σ ρ) (h : m ≤ m') : RtS K t m' G H σ ρ := ⟨S.T.more h, S.rs, S.h0⟩
theorem RtS.dat {f : Ev → Option D} (S : RtS K t m G H σ ρ) (h : f ρ = some d) (q : ∀ v G' H', Grow G H G' H' → Rp K G' v d → Q v H') : tD K f σ H Q := ⟨G, ρ, d, S.T.i, S.rs, h, q⟩
theorem DkS.set (S : DkS K P w G σ j es) (i : Nat) (y : Option V) (h : i ≠ j) : DkS K P w G (σ.set i y) j es := S.at_ (List.getElem?_set_ne h)
theorem RtS.setD {f : Ev → Option D} (S : RtS K t m G H σ ρ) (hj : j ≠ 0) (h : f ρ = some d) (q : ∀ v G' H', Grow G H G' H' → RtS K t m G' H' (σ.set j (some v)) (stE ρ j (some d)) → u De (σ.set j (some v)) H') : tSeq (tAsg (tD K f) (gName j)) u De σ H :=
  S.dat h fun v G' H' g r => q v G' H' g ((S.grow g).set j hj r)
/-- take(n), kept -/
theorem RtS.call {dm : Int} {pre : List D → Prop} {res : List D → D → Prop} {h : Ev → Option (List D)} {ds : List D} (S : RtS K t m G H σ ρ) (hm : m + dm ≤ 100000) (hh : h ρ = some ds) (hp : pre ds)
    (q : ∀ (d : D) (v : V) (G' H' : Hp), res ds d → GrowT t G H G' H' → RtS K t (m + dm) G' H' σ ρ → Rp K G' v d → Q v H') : tCall (spN K dm pre res) [] E0 (tCons (tVar 0) (aD K h)) σ H Q :=
  n_call S.T S.rs S.h0 hm hh hp fun d v G' H' hr g t' r => q d v G' H' hr g (S.growT g t') r
end
end Mv

/-! part U6 -/
set_option maxHeartbeats 4000000
namespace Mv
open PySem PySem.Spec L2
def N_right : List Str := ["_law_tin", "_law_one", "_law_bent_so", "_law_two", "_law_deep_so", "_law_got", "_law_row_so", "_law_near_so", "_law_far_so", "_law_meet_so", "_law_word_so", "_law_due", "_law_step_here"]
theorem sc_law_right : FnScope N_right ["_law_tin"] (defScope (topS 81)) := ⟨rfl, rfl, rfl, by decide +kernel, rfl, by decide +kernel, by decide +kernel⟩
section
variable {P : Program} {w : World} {K : PySem.W.Frag} {mg : Str → Option Value} {base : Heap}
structure CalS (P : Program) (w : World) (K : PySem.W.Frag) (mg : Str → Option Value) (base : Heap) (k : Nat) (x : Str) (sp : Sp) : Prop where
  ex : ∃ (f : Addr) (fd : FuncData) (ps : List Str), FnOk P w K mg base CX0 k f fd ps sp ∧ mg x = some (.ref f) ∧ PySem.W.keepIn K (.ref f) = true ∧ Binds K fd ps []
/-- _law_right: any tin, and it says True -/
def spRight : Sp := fun vs H Q _ => ∃ t, vs = [.ref t] ∧ TinAt H t 0 ∧ ∀ H', Q (.bl true) H'
def meet0E : Ev → Option D := o2 dIx (vE 9) (cE (.int 0))
def stepE : Ev → Option D := aE F_law_step (consA (vE 1) (consA (vE 12) nilA))
def noneE : Ev → Option D := aE mkT (consA (cE (.int 9)) (consA (cE (.int 0)) nilA))
def dueT (K : PySem.W.Frag) (P : Program) (w : World) : TT := tTest (tOp (rD2 K dEq) (tOp (rD2 K dIx) (tKGet2 K P w (tVar 8) (tD K stepE) (tD K noneE)) (tD K (cE (.int 0)))) (tD K (o2 dSub meet0E (cE (.int 1)))))
theorem cal_right (B : Bt mg) (F : Df K mg "_law_right" (topS 81) ["_law_tin"])
    (cS : CalN P w K mg base 5 "_law_somewhere" 11 preNone resSome) (cT : CalN P w K mg base 1 "_law_take" 1 preTake resTake) (cW : CalN P w K mg base 3 "_law_walk" 10 preWalk resWalk) (cBe : CalN P w K mg base 3 "_law_bent_spot" 4 preBent resBent)
    (cL : CalS P w K mg base 4 "_law_levels" (spLev K P w)) (cM : CalS P w K mg base 1 "_law_meet" (spMeet K P w))
    (c__law_behind : Cal P w K mg base 4 "_law_behind" F_law_behind) (c__law_turns : Cal P w K mg base 1 "_law_turns" F_law_turns) (c__law_word : Cal P w K mg base 2 "_law_word" F_law_word) (c__law_step : Cal P w K mg base 3 "_law_step" F_law_step)
    (c_can_turn_to : Cal P w K mg base 10 "can_turn_to" F_can_turn_to) (c__law_heard : Cal P w K mg base 12 "_law_heard" F_law_heard) (c__law_lists : Cal P w K mg base 7 "_law_lists" F_law_lists) (c_is_turn_plan : Cal P w K mg base 10 "is_turn_plan" F_is_turn_plan)
    (c__law_same : Cal P w K mg base 7 "_law_same" F_law_same) (c__law_plan_right : Cal P w K mg base 13 "_law_plan_right" F_law_plan_right) : CalS P w K mg base 14 "_law_right" spRight := by
  obtain ⟨f, fd, F, hm, hbi⟩ := F.ex
  obtain ⟨fS, fdS, psS, FS, mS, kS, bS⟩ := cS.ex
  obtain ⟨fT, fdT, psT, FT, mT, kT, bT⟩ := cT.ex
  obtain ⟨fW, fdW, psW, FW, mW, kW, bW⟩ := cW.ex
  obtain ⟨fE, fdE, psE, FE, mE, kE, bE⟩ := cBe.ex
  obtain ⟨fL, fdL, psL, FL, mL, kL, bL⟩ := cL.ex
  obtain ⟨fM, fdM, psM, FM, mM, kM, bM⟩ := cM.ex
  obtain ⟨fB, fdB, psB, FB, mB, kB, bB⟩ := c__law_behind.ex
  refine ⟨f, fd, _, ?_, hm, F.kp, hbi⟩
  refine F.ok sc_law_right (fun vs H Q E h => ?_) (fun cdv A outer s H vs Q E hr h => ?_)
  · obtain ⟨t, rfl, _⟩ := h; rfl
  have nd := sc_law_right.nd
  have hr4 := hr.mono (show 4 ≤ 13 by decide)
  have hr1 := hr.mono (show 1 ≤ 13 by decide)
  have hr3 := hr.mono (show 3 ≤ 13 by decide)
  have hr5 := hr.mono (show 5 ≤ 13 by decide)
  refine ⟨_, pss_cons (ps_set (i := 1) nd rfl (Or.inr rfl) (pe_call FS hr5 rfl mS kS bS .nil pass0 (pa_cons (pe_var (i := 0) rfl (Or.inl rfl)) pa_nil)))
    (pss_cons (ps_set (i := 2) nd rfl (Or.inl rfl) (pe_cmpR (op_dEq hr.units) (pe_call FT hr1 rfl mT kT bT .nil pass0 (pa_cons (pe_var (i := 0) rfl (Or.inl rfl)) (ac xc_int an))) xc_int (nomark _)))
    (pss_cons (ps_set (i := 3) nd rfl (Or.inl rfl) (pe_call FB hr4 rfl mB kB bB .nil pass0 (pa_cons (xv 1 rfl (Or.inr (Or.inl rfl))) (pa_cons (pe_call FW hr3 rfl mW kW bW .nil pass0 (pa_cons (pe_var (i := 0) rfl (Or.inl rfl)) (pa_cons (pe_call FT hr1 rfl mT kT bT .nil pass0 (pa_cons (pe_var (i := 0) rfl (Or.inl rfl)) (ac (xif (tval (xv 2 rfl (Or.inl rfl))) xc_int xc_int) an))) (ac (xcall0 c__law_turns hr (by decide) rfl) an)))) pa_nil))))
    (pss_cons (ps_if (tval (xv 2 rfl (Or.inl rfl))) (pss_one (ps_set (i := 3) nd rfl (Or.inl rfl) (pe_call FE hr3 rfl mE kE bE .nil pass0 (pa_cons (pe_var (i := 0) rfl (Or.inl rfl)) (ac (xv 3 rfl (Or.inl rfl)) an))))) pss_nil)
    (pss_cons (ps_set (i := 4) nd rfl (Or.inl rfl) (xif (tval (xv 2 rfl (Or.inl rfl))) xc_int xc_int))
    (pss_cons (ps_asg (pe_tup (pa_cons (pe_fz (pe_call FL hr4 rfl mL kL bL .nil pass0 (ac (xv 1 rfl (Or.inr (Or.inl rfl))) (ac (xcall0 c__law_turns hr (by decide) rfl) (ac (xv 4 rfl (Or.inl rfl)) an))))) (pa_cons (pe_fz (pe_call FL hr4 rfl mL kL bL .nil pass0 (ac (xv 3 rfl (Or.inl rfl)) (ac (xcall0 c__law_turns hr (by decide) rfl) (ac (xv 4 rfl (Or.inl rfl)) an))))) pa_nil))) (pg_tup rfl (pgs_cons (pg_name (i := 7) nd rfl (Or.inl rfl)) (pgs_cons (pg_name (i := 8) nd rfl (Or.inr rfl)) pgs_nil))))
    (pss_cons (ps_asg (pe_tup (pa_cons (pe_call FM hr1 rfl mM kM bM .nil pass0 (pa_cons (pe_var (i := 7) rfl (Or.inl rfl)) (pa_cons (pe_var (i := 8) rfl (Or.inr (Or.inl rfl))) pa_nil))) (ac (xcall c__law_word hr (by decide) rfl (ac (xv 1 rfl (Or.inr (Or.inl rfl))) (ac (xv 3 rfl (Or.inl rfl)) an))) an))) (gt rfl (gn1 (pg_name (i := 9) nd rfl (Or.inr rfl)) (gn1 (pg_name (i := 10) nd rfl (Or.inl rfl)) gn0))))
    (pss_cons (ps_if (tcmp (op_dNe hr.units) (xcmp op_dIs (xv 9 rfl (Or.inr (Or.inl rfl))) xc_non (nomark _)) (xcmp (op_dNe hr.units) (xv 10 rfl (Or.inl rfl)) xc_str (nomark _)) (nomark _)) (pss_one (ps_ret xc_bl)) pss_nil)
    (pss_cons (ps_if (tcmp op_dIs (xv 9 rfl (Or.inr (Or.inl rfl))) xc_non (nomark _))
      (zc (zset (i := 5) nd rfl (Or.inl rfl) (xlst (ac (xcall c_can_turn_to hr (by decide) rfl (ac (xv 1 rfl (Or.inr (Or.inl rfl))) (ac (xv 3 rfl (Or.inl rfl)) an))) (ac (xcall c__law_heard hr (by decide) rfl (ac xc_int (ac (xv 1 rfl (Or.inr (Or.inl rfl))) (ac (xv 3 rfl (Or.inl rfl)) an)))) (ac (xcall c__law_heard hr (by decide) rfl (ac xc_int (ac (xv 1 rfl (Or.inr (Or.inl rfl))) (ac (xv 3 rfl (Or.inl rfl)) an)))) (ac (xcall c__law_heard hr (by decide) rfl (ac xc_int (ac (xv 1 rfl (Or.inr (Or.inl rfl))) (ac (xv 3 rfl (Or.inl rfl)) an)))) an))))))
    (zc (zset (i := 5) nd rfl (Or.inl rfl) (xo2 op_dAdd (xv 5 rfl (Or.inl rfl)) (xlst (ac (xcall c__law_heard hr (by decide) rfl (ac xc_int (ac (xv 1 rfl (Or.inr (Or.inl rfl))) (ac (xcall c__law_lists hr (by decide) rfl (ac (xv 3 rfl (Or.inl rfl)) an)) an)))) (ac (xcall c_is_turn_plan hr (by decide) rfl (ac (xv 1 rfl (Or.inr (Or.inl rfl))) (ac (xv 3 rfl (Or.inl rfl)) (ac (xtup an) an)))) an)))))
    (z1 (zret (xcall c__law_same hr (by decide) rfl (ac (xv 5 rfl (Or.inl rfl)) (ac (xo2 op_dAdd (xo2 op_dAdd (xlst (ac xc_bl an)) (xo2 op_dMul (xlst (ac (xlst (ac xc_str (ac xc_bl an))) an)) xc_int)) (xlst (ac (xv 10 rfl (Or.inl rfl)) (ac xc_bl an)))) an))))))) pss_nil)
    (pss_cons (ps_set (i := 5) nd rfl (Or.inl rfl) (xlst (ac (xcall c_can_turn_to hr (by decide) rfl (ac (xcall c__law_lists hr (by decide) rfl (ac (xv 1 rfl (Or.inr (Or.inl rfl))) an)) (ac (xv 3 rfl (Or.inl rfl)) an))) (ac (xcall c__law_heard hr (by decide) rfl (ac xc_int (ac (xv 1 rfl (Or.inr (Or.inl rfl))) (ac (xv 3 rfl (Or.inl rfl)) an)))) (ac (xcall c__law_heard hr (by decide) rfl (ac xc_int (ac (xv 1 rfl (Or.inr (Or.inl rfl))) (ac (xv 3 rfl (Or.inl rfl)) an)))) an)))))
    (pss_cons (ps_if (PW.pt (tor (tnot (tval (xcall c__law_same hr (by decide) rfl (ac (xv 5 rfl (Or.inl rfl)) (ac (xlst (ac xc_bl (ac (xix (xv 9 rfl (Or.inr (Or.inl rfl))) xc_int) (ac (xlst (ac xc_str (ac xc_bl an))) an)))) an))))) (tor1 (tnot (tval (xcall c__law_plan_right hr (by decide) rfl (ac (xv 1 rfl (Or.inr (Or.inl rfl))) (ac (xv 3 rfl (Or.inl rfl)) (ac (xix (xv 9 rfl (Or.inr (Or.inl rfl))) xc_int) an))))))))) (pss_one (ps_ret xc_bl)) pss_nil)
    (pss_cons (ps_if (PW.pt (tand (tnot (tval (xv 2 rfl (Or.inl rfl)))) (tand1 (tcmp op_dLe (xix (xv 9 rfl (Or.inr (Or.inl rfl))) xc_int) xc_int (nomark _)))))
      (pss_cons (ps_setLc (i := 11) (own := [("_law_step_here", 12)]) (g := gD K (.one 12)) (tt := dueT K P w) (te := tD K (vE 12)) rfl nd rfl rfl (sw_true rfl rfl rfl (by decide +kernel)) (iseq (xcallB (cl_sorted hr.units) (by decide +kernel) B.sorted_ rfl (ac (xcall0 c__law_turns hr (by decide) rfl) an))) (blkOk_by (N := N_right) (sc := defScope (topS 81)) (by decide +kernel))
          (fun _ _ _ _ _ => (g1 (i := 12) nd rfl (Or.inl rfl)))
          (fun _ _ _ _ _ => pts_one (pt_cmpR (op_dEq hr.units) (pe_ix ix_D (pe_kget2 hr.units (pe_var (i := 8) rfl (Or.inr (Or.inl rfl))) (xcall c__law_step hr (by decide) rfl (ac (xv 1 rfl (Or.inr (Or.inl rfl))) (ac (xv 12 rfl (Or.inl rfl)) an))) (xtup (ac xc_int (ac xc_int an))) ⟨rfl, by kernel_rfl, rfl, rfl⟩) xc_int (fun _ _ => rfl)) (xo2 op_dSub (xix (xv 9 rfl (Or.inr (Or.inl rfl))) xc_int) xc_int) (nomark _)))
          (fun _ _ _ _ _ => xv 12 rfl (Or.inl rfl)))
        (pss_one (ps_if (tnot (tval (xcall c__law_same hr (by decide) rfl (ac (xcall c__law_heard hr (by decide) rfl (ac xc_int (ac (xv 1 rfl (Or.inr (Or.inl rfl))) (ac (xv 3 rfl (Or.inl rfl)) an)))) (ac (xcallTy cl_tuple (by decide +kernel) B.tuple_ rfl (ac (xv 11 rfl (Or.inl rfl)) an)) an))))) (pss_one (ps_ret xc_bl)) pss_nil))) pss_nil)
    (pss_cons (ps_set (i := 6) nd rfl (Or.inl rfl) (pe_call FW hr3 rfl mW kW bW .nil pass0 (pa_cons (pe_var (i := 0) rfl (Or.inl rfl)) (ac (xix (xv 9 rfl (Or.inr (Or.inl rfl))) xc_int) (ac (xcall0 c__law_turns hr (by decide) rfl) an)))))
    (pss_one (ps_ret (xcall c__law_same hr (by decide) rfl (ac (xcall c_is_turn_plan hr (by decide) rfl (ac (xv 1 rfl (Or.inr (Or.inl rfl))) (ac (xv 3 rfl (Or.inl rfl)) (ac (xv 6 rfl (Or.inl rfl)) an)))) (ac (xcmp (op_dEq hr.units) (xcall c__law_behind hr (by decide) rfl (ac (xv 1 rfl (Or.inr (Or.inl rfl))) (ac (xv 6 rfl (Or.inl rfl)) an))) (xv 3 rfl (Or.inl rfl)) (nomark _)) an))))))))))))))))), ?_⟩
  obtain ⟨t, rfl, T0, q⟩ := h
  have S0 : RtS K t 0 (fun _ => none) H (L2.start N_right [.ref t]) [none, none, none, none, none, none, none, none, none, none, none, none, none] :=
    ⟨⟨(fun _ _ z => by cases z), rfl, T0⟩, rs_tin (n := 12) .nil rfl (Nat.zero_le _), rfl⟩
  generalize L2.start N_right [.ref t] = σ0 at S0
  generalize (fun _ => none : Hp) = G0 at S0
  -- one
  refine seq_set ⟨.ref t, S0.h0, t, [], G0, [], 0, rfl, .nil, S0.T, by decide, rfl, fun d1 v1 G1 H1 hr1 g1 t1 r1 => ?_⟩
  obtain ⟨s, gs, rfl⟩ := hr1
  have S1 : RtS K t 11 G1 H1 (σ0.set 1 (some v1)) [none, some (sD' s), none, none, none, none, none, none, none, none, none, none, none] := (S0.growT g1 t1).set 1 (by decide) r1
  generalize σ0.set 1 (some v1) = σ1 at S1
  -- bent
  refine seq_set (S1.call (ds := [.int 3]) (by decide) rfl ⟨3, rfl, by decide, by decide⟩ fun d2 v2 G2 H2 hr2 g2 S2 r2 => ?_)
  obtain ⟨_, k2, e, rfl, -, -⟩ := hr2
  refine S2.dat rfl fun y G3 H3 g3 r3 => ⟨G3, .int k2, .int 0, .bool (decide (k2 = 0)), g3.i, Rp.mono g3.g _ _ r2, r3, dEq_int _ _, fun v4 G4 H4 g4 r4 => ?_⟩
  generalize decide (k2 = 0) = b at r4
  have S4 : RtS K t 12 G4 H4 (σ1.set 2 (some v4)) [none, some (sD' s), some (.bool b), none, none, none, none, none, none, none, none, none, none] := ((S2.grow g3).grow g4).set 2 (by decide) r4
  generalize σ1.set 2 (some v4) = σ2 at S4
  -- two
  refine seq_set (S4.dat rfl fun v5 G5 H5 g5 r5 => ⟨.ref t, (S4.grow g5).h0, ?_⟩)
  have S5 := S4.grow g5
  refine S5.call (ds := [.int (bif b then 2 else 7)]) (by decide) (by cases b <;> rfl) ⟨_, rfl, by cases b <;> decide, by cases b <;> decide⟩ fun d6 v6 G6 H6 hr6 g6 S6 r6 => ?_
  obtain ⟨_, k6, e6, rfl, k60, k61⟩ := hr6
  cases e6
  obtain ⟨k, rfl⟩ := Int.eq_ofNat_of_zero_le k60
  refine ⟨G6, _, [.list turnsD], S6.T.i, S6.rs, ?_, fun vs7 G7 H7 g7 r7 => ?_⟩
  · show consA (aE F_law_turns nilA) nilA _ = _
    exact consA_ev turns_ev rfl
  have S7 := S6.grow g7
  cases r7 with
  | cons r7 r7' =>
  cases r7'
  refine ⟨t, [v6, _], G7, [.int (k : Nat), .list turnsD], _, rfl, .cons (Rp.mono g7.g _ _ r6) (.cons r7 .nil), S7.T, by decide, ⟨k, turnsD, rfl, ?_, by decide, by decide⟩, fun d8 v8 G8 H8 hr8 g8 t8 r8 => ?_⟩
  · cases b <;> simp at k61 <;> omega
  obtain ⟨k', gs', ys, e8, rfl, hlen, hys⟩ := hr8
  cases e8
  obtain ⟨ms, rfl, hms⟩ := ms_of hys
  have S8 := S7.growT g8 t8
  refine ⟨G8, [sD' s, rowD ms], _, S8.T.i, .cons (Rp.mono (g6.g.trans (g7.g.trans g8.g)) _ _ r5) (.cons r8 .nil), law_behind_ev s hms, fun v9 G9 H9 g9 r9 => ?_⟩
  rw [run_q s hms] at r9
  obtain ⟨qp, qd⟩ := qrun_ok hms
  have ql : (ms.length : Int) = k := by rw [← hlen, List.length_map]
  have gt0 : Good (slnt s (qrun ms)) := by rw [← run_q s hms]; exact good_run ms gs
  have S9 : RtS K t 23 G9 H9 (σ2.set 3 (some v9)) [none, some (sD' s), some (.bool b), some (sD' (slnt s (qrun ms))), none, none, none, none, none, none, none, none, none] := (S8.grow g9).set 3 (by decide) r9
  generalize σ2.set 3 (some v9) = σ3 at S9
  -- bent: somewhere near
  let n : Nat := bif b then 2 else 3
  refine seq_join (fun σ H => ∃ G two, RtS K t 27 G H σ [none, some (sD' s), some (.bool b), some (sD' two), none, none, none, none, none, none, none, none, none] ∧ Good two ∧ ∀ q, pairB q = true → two = slnt s q → D4 q ≤ 2 * (n : Int)) ?_ fun cont => ?_
  rotate_left
  · refine if_D b S9.T.i S9.rs (by cases b <;> rfl) (fun hb Ga Ha ga => ?_) (fun hb Ga Ha ga => ?_)
    · subst hb
      refine (S9.grow ga).call (ds := [sD' (slnt s (qrun ms))]) (by decide) rfl ⟨_, rfl⟩ fun d v G' H' hr g S r => ?_
      obtain ⟨s1, s2, e, rfl, hg, hn⟩ := hr
      have e := sD_inj (List.cons.inj e).1
      subst e
      refine cont _ _ ⟨G', s2, S.set 3 (by decide) r, hg gt0, fun q hq e => ?_⟩
      refine near_D4 rfl ?_ hn hq e
      simp at k61
      omega
    · subst hb
      refine cont _ _ ⟨Ga, _, (S9.grow ga).more (by decide), gt0, fun q hq e => ?_⟩
      rw [← slnt_inj e]
      simp at k61
      show _ ≤ 2 * ((3 : Nat) : Int)
      omega
  rintro σ4 Hb ⟨Gb, two, Sb, gt, hD⟩
  have F : Fl n := by
    show Fl (bif b then 2 else 3)
    cases b
    · exact fl3
    · exact fl2
  have hn3 : n ≤ 3 := by
    show (bif b then 2 else 3) ≤ 3
    cases b <;> decide
  -- deep
  refine Sb.setD (by decide) (d := .int (n : Nat)) (by cases b <;> rfl) fun v Gc Hc gc Sc => ?_
  generalize σ4.set 4 (some v) = σ5 at Sc
  -- the levels
  have lv : ∀ (x : Sd) (ρ : Ev) (i : Nat), nth ρ i = some (sD' x) → nth ρ 4 = some (.int (n : Nat)) → consA (vE i) (consA (aE F_law_turns nilA) (consA (vE 4) nilA)) ρ = some [sD' x, .list turnsD, .int (n : Nat)] := fun x ρ i h1 h2 => consA_ev h1 (consA_ev turns_ev (consA_ev h2 rfl))
  refine seq_asg (tup_of (cons_of (lev_call (first := sD' s) (steps := turnsD) (n := n) (es := (Lq n).map (rE s)) Sc.T.i Sc.rs (lv s _ 1 rfl rfl) (by omega) (levels_sim s n F.eq) fun a oa xs Gd Hd gd fa ea => cons_of ?_)))
  have Sd' := Sc.grow gd
  refine lev_call (first := sD' two) (steps := turnsD) (n := n) (es := (Lq n).map (rE two)) Sd'.T.i Sd'.rs (lv two _ 3 rfl rfl) (by omega) (levels_sim two n F.eq) fun c oc ys Ge He ge fc ec => ?_
  have Se := Sd'.grow ge
  refine ⟨by show 2 ≤ sizeLine; decide, fun p hp => ⟨p, [.ref a, .ref c], rfl, SqT.of upd_same, rfl, .ref a, [.ref c], rfl, .ref c, [], rfl, rfl, ?_⟩⟩
  have gn := Grow.new (p := p) (o := .tup [.ref a, .ref c]) Se.T.i hp
  have hl5 : σ5.length = 13 := Sc.rs.len
  have Sf : RtS K t 27 (upd Ge p (.tup [.ref a, .ref c])) (upd He p (.tup [.ref a, .ref c])) ((σ5.set 7 (some (.ref a))).set 8 (some (.ref c))) [none, some (sD' s), some (.bool b), some (sD' two), some (.int (n : Nat)), none, none, none, none, none, none, none, none] := ((Se.grow gn).unset 7 (by decide) _).unset 8 (by decide) _
  have dn : DkS K P w (upd Ge p (.tup [.ref a, .ref c])) ((σ5.set 7 (some (.ref a))).set 8 (some (.ref c))) 7 ((Lq n).map (rE s)) := ⟨a, oa, xs, by rw [List.getElem?_set_ne (by decide)]; exact List.getElem?_set_self (by omega), (ge.g.trans gn.g) _ _ fa, ea.mono (ge.g.trans gn.g)⟩
  have df : DkS K P w (upd Ge p (.tup [.ref a, .ref c])) ((σ5.set 7 (some (.ref a))).set 8 (some (.ref c))) 8 ((Lq n).map (rE two)) := ⟨c, oc, ys, List.getElem?_set_self (by rw [List.length_set]; omega), gn.g _ _ fc, ec.mono gn.g⟩
  generalize upd Ge p (.tup [.ref a, .ref c]) = Gf at Sf dn df
  generalize upd He p (.tup [.ref a, .ref c]) = Hf at Sf
  generalize (σ5.set 7 (some (.ref a))).set 8 (some (.ref c)) = σ6 at Sf dn df
  -- meet and word
  obtain ⟨md, hmd, cases2⟩ : ∃ md, meetD ((Lq n).map (rE s)) ((Lq n).map (rE two)) = some md ∧ ((barB s two ≠ "" ∧ md = .none) ∨ ∃ q m, two = slnt s q ∧ pairB q = true ∧ D4 q ≤ 2 * (n : Int) ∧ barB s two = "" ∧ qS s two = q ∧ md = .tuple [.int (D4 q), .int m]) := by
    rcases meet_cases F hn3 hD with ⟨h1, h2⟩ | ⟨q, m, h1, h2, h3, h4, h5, h6⟩
    · exact ⟨_, h2, .inl ⟨h1, rfl⟩⟩
    · exact ⟨_, h6, .inr ⟨q, m, h1, h2, h3, h4, h5, rfl⟩⟩
  refine seq_asg (tup_of (cons_of (meet_call Sf.T.i dn df hmd fun vm Gg Hg gg rm => ?_)))
  have Sg := Sf.grow gg
  refine ⟨Gg, _, [.str (barB s two)], Sg.T.i, Sg.rs, consA_ev (aE_ev (ds := [sD' s, sD' two]) rfl (by rw [word_ev, word_eq])) rfl, fun vw Gh Hh gh rw_ => ?_⟩
  cases rw_ with
  | @cons vx _ _ _ rw_ rw' =>
  cases rw'
  refine ⟨by show 2 ≤ sizeLine; decide, fun p2 hp2 => ?_⟩
  have Sh := Sg.grow gh
  have gi := Grow.new (p := p2) (o := .tup [vm, vx]) Sh.T.i hp2
  have Si := Sh.grow gi
  refine ⟨_, _, .tuple [md, .str (barB s two)], [none, some (sD' s), some (.bool b), some (sD' two), some (.int (n : Nat)), none, none, none, none, some md, some (.str (barB s two)), none, none], Si.T.i, Si.rs, .tup (SqT.of upd_same) (.cons (Rp.mono (gh.g.trans gi.g) _ _ rm) (.cons (Rp.mono gi.g _ _ rw_) .nil)), rfl, fun σ7 rs7 hw => ?_⟩
  have Sj : RtS K t 27 _ _ σ7 _ := ⟨Si.T, rs7, (get_wipes (hw [9, 10] fun _ z => z) (by decide)).trans Si.h0⟩
  have dj := ((df.mono gg.g).mono gh.g |>.mono gi.g).at_ (σ' := σ7) (get_wipes (hw [9, 10] fun _ z => z) (by decide))
  clear rs7 hw
  generalize upd Gh p2 _ = Gj at Sj dj
  generalize upd Hh p2 _ = Hj at Sj
  rcases cases2 with ⟨hb, rfl⟩ | ⟨q4, mm, htw, hp4, hd4, hb, hqs, rfl⟩
  · -- no turns lead there
    refine seq_if (if_D false Sj.T.i Sj.rs ?_ (fun z => by cases z) fun _ Gk Hk gk => ?_)
    · exact toB_ev ((o2_ev (x := .bool true) (y := .bool true) rfl ((o2_ev rfl rfl).trans (by rw [dNe_bar, decide_eq_false hb]; rfl))).trans rfl)
    have Sk := Sj.grow gk
    show tSeq _ _ _ σ7 Hk
    refine seq_if (if_D true Sk.T.i Sk.rs rfl (fun _ Gl Hl gl => ?_) (fun z => by cases z))
    have Sl := Sk.grow gl
    refine ⟨Gl, _, .rt (.bool true), Sl.T.i, Sl.rs, ?_, fun v G' H' g r => ?_⟩
    rotate_left
    · cases r; exact q H'
    have hh := heard_bad (sure1 gs).1 (sure1 gt).1 hb
    have hh3 := (heard_bad (sure1 gs).1 (sure1 gt).2 hb).2.2.2
    have ct : F_can_turn_to [sD' s, sD' two] = some (.bool false) := (can_turn_ev (sure1 gs).1 (sure1 gt).1).trans (by rw [decide_eq_false hb])
    have ip : F_is_turn_plan [sD' s, sD' two, .tuple []] = some (.bool false) := (is_plan_ev (sure1 gs).1 (sure1 gt).1 (ms := []) (by decide) (fun _ z => by cases z)).trans (by rw [decide_eq_false hb]; rfl)
    have v2 : ∀ (z : Int) (ρ : Ev) (x : D), nth ρ 1 = some (sD' s) → nth ρ 3 = some (sD' two) → F_law_heard [.int z, sD' s, sD' two] = some x → aE F_law_heard (consA (cE (.int z)) (consA (vE 1) (consA (vE 3) nilA))) ρ = some x := fun z ρ x h1 h2 h3 => aE_ev (consA_ev rfl (consA_ev h1 (consA_ev h2 rfl))) h3
    refine (as_nx (d := .list [.bool false, canNotD, canNotD, canNotD]) ?_).trans ((as_nx (d := badD (barB s two)) ?_).trans (rt_ev ?_))
    · exact aE_ev (consA_ev (aE_ev (ds := [sD' s, sD' two]) rfl ct) (consA_ev (v2 0 _ _ rfl rfl hh.1) (consA_ev (v2 1 _ _ rfl rfl hh.2.1) (consA_ev (v2 2 _ _ rfl rfl hh.2.2.1) rfl)))) rfl
    · refine (o2_ev (x := .list [.bool false, canNotD, canNotD, canNotD]) (y := .list [.str (barB s two), .bool false]) rfl (aE_ev (consA_ev ?_ (consA_ev ?_ rfl)) rfl)).trans rfl
      · exact aE_ev (ds := [.int 3, sD' s, lsD two]) (consA_ev rfl (consA_ev rfl (consA_ev (aE_ev (ds := [sD' two]) rfl (lists_ev two)) rfl))) hh3
      · exact aE_ev (ds := [sD' s, sD' two, .tuple []]) rfl ip
    · exact aE_ev (ds := [badD (barB s two), badD (barB s two)]) (consA_ev rfl (consA_ev rfl rfl)) (same_bad hb)
  · have h0 := D4_nonneg q4
    have h6 : D4 q4 ≤ 6 := by omega
    have w1 : dNe (.str (barB s two)) (.str "") = some (.bool false) := by rw [dNe_bar, decide_eq_true hb]; rfl
    refine seq_if (if_D false Sj.T.i Sj.rs ?_ (fun z => by cases z) fun _ Gk Hk gk => ?_)
    · exact toB_ev ((o2_ev (x := .bool false) (y := .bool false) rfl ((o2_ev rfl rfl).trans w1)).trans rfl)
    have Sk := Sj.grow gk
    show tSeq _ _ _ σ7 Hk
    refine seq_if (if_D false Sk.T.i Sk.rs rfl (fun z => by cases z) fun _ Gl Hl gl => ?_)
    have Sl := Sk.grow gl
    show tSeq _ _ _ σ7 Hl
    have hh := heard_good (sure1 gs).1 (sure1 gt).1 hb
    rw [hqs] at hh
    have ct : F_can_turn_to [lsD s, sD' two] = some (.bool true) := (can_turn_ev (sure1 gs).2 (sure1 gt).1).trans (by rw [decide_eq_true hb])
    have v2 : ∀ (z : Int) (ρ : Ev) (x : D), nth ρ 1 = some (sD' s) → nth ρ 3 = some (sD' two) → F_law_heard [.int z, sD' s, sD' two] = some x → aE F_law_heard (consA (cE (.int z)) (consA (vE 1) (consA (vE 3) nilA))) ρ = some x := fun z ρ x h1 h2 h3 => aE_ev (consA_ev rfl (consA_ev h1 (consA_ev h2 rfl))) h3
    refine Sl.setD (by decide) (d := goodD (D4 q4)) ?_ fun v Gm Hm gm Sm => ?_
    · exact aE_ev (consA_ev (aE_ev (ds := [lsD s, sD' two]) (consA_ev (aE_ev (ds := [sD' s]) rfl (lists_ev s)) rfl) ct) (consA_ev (v2 0 _ _ rfl rfl hh.1) (consA_ev (v2 3 _ _ rfl rfl hh.2.2.2) rfl))) rfl
    have dm := (((dj.mono gk.g).mono gl.g).mono gm.g).set 5 (some v) (by decide)
    generalize σ7.set 5 (some v) = σ8 at Sm dm
    refine seq_if (if_D false Sm.T.i Sm.rs ?_ (fun z => by cases z) fun _ Gn Hn gn2 => ?_)
    · refine or_ev false false ?_ ?_
      · unfold notB
        rw [toB_ev (b := true) (aE_ev (ds := [goodD (D4 q4), goodD (D4 q4)]) (consA_ev rfl (consA_ev rfl rfl)) (same_good h0 h6))]
        rfl
      · unfold notB
        rw [toB_ev (b := true) (aE_ev (ds := [sD' s, sD' two, .int (D4 q4)]) (consA_ev rfl (consA_ev rfl (consA_ev rfl rfl))) (plan_right_ev gs gt htw hp4 h6))]
        rfl
    have Sn := Sm.grow gn2
    have dn2 := dm.mono gn2.g
    refine (show ∀ {De : Ends} {σ : L2.St} {H : Hp}, De.nx σ H → tNext De σ H from fun h => h) ?_
    dsimp only
    refine seq_join (fun σ H => ∃ G x y, RtS K t 27 G H σ [none, some (sD' s), some (.bool b), some (sD' two), some (.int (n : Nat)), some (goodD (D4 q4)), none, none, none, some (.tuple [.int (D4 q4), .int mm]), some (.str (barB s two)), x, y]) ?_ fun cont => ?_
    rotate_left
    · refine if_D (!b && decide (D4 q4 ≤ 4)) Sn.T.i Sn.rs (by cases b <;> rfl) (fun hc Go Ho go => ?_) (fun hc Go Ho go => cont _ _ ⟨Go, none, none, Sn.grow go⟩)
      rw [Bool.and_eq_true, decide_eq_true_eq] at hc
      obtain ⟨hc1, hc2⟩ := hc
      have hb0 : b = false := by cases b <;> first | rfl | cases hc1
      subst hb0
      have So := Sn.grow go
      have do_ : DkS K P w Go σ8 8 ((Lq 3).map (rE two)) := dn2.mono go.g
      let p : D → Bool := fun d => match mvOf d with
        | some m => decide (D4 (cmp (inv (mv m)) q4) < D4 q4)
        | none => false
      have hf : sortedTurnsD.filter p = (nearer q4).map mvD := by
        unfold sortedTurnsD nearer
        rw [List.filter_map]
        rw [show (List.range 8).filter (p ∘ mvD) = (List.range 8).filter fun m => decide (D4 (cmp (inv (mv m)) q4) < D4 q4) from List.filter_congr fun m hm => by
          show (match mvOf (mvD m) with | some m => decide (D4 (cmp (inv (mv m)) q4) < D4 q4) | none => false) = _
          rw [mvOf_mv m (List.mem_range.mp hm)]]
      refine seq_set (lc_filt (ds := sortedTurnsD) p So.T.i So.rs ?_ (by decide) (fun _ => rfl) (fun d hd G3 H3 σ2 s3 i3 hw r3 Q' hQ => ?_) fun v Gq Hq gq rq => ?_)
      · unfold seqE
        rw [aE_ev (ds := [.list turnsD]) (consA_ev turns_ev rfl) (show sortedD [.list turnsD] = some (.list sortedTurnsD) by kernel_rfl)]
        rfl
      · obtain ⟨m, hm, rfl⟩ := List.mem_map.mp hd
        have hm8 := List.mem_range.mp hm
        obtain ⟨l, hl1, hl2⟩ := far_ev hp4 hc2 hm8
        refine get2_test (k := sK (tn s m)) (kd := sD' (tn s m)) (nd := .tuple [.int 9, .int 0]) (l := l) (z := D4 q4 - 1) i3 r3 ((do_.mono s3).at_ (get_wipes hw (by decide))) (aE_ev (ds := [sD' s, mvD m]) rfl (step_turn s m hm8)) ⟨_, rfl⟩ (keyN_sD _) rfl rfl ?_ fun G4 H4 g4 => ?_
        · rw [far_look htw hm8, ← hl1]
          unfold farL
          cases lookQ (Lq 3) (cmp (inv q4) (mv m)) <;> rfl
        · rw [hl2]
          have hq := hQ G4 H4 g4
          have e : p (mvD m) = decide (D4 (cmp (inv (mv m)) q4) < D4 q4) := by
            show (match mvOf (mvD m) with | some m => decide (D4 (cmp (inv (mv m)) q4) < D4 q4) | none => false) = _
            rw [mvOf_mv m hm8]
          rw [← e]
          exact hq
      rw [hf] at rq
      have Sq := (So.grow gq).set 11 (by decide) rq
      refine if_D false Sq.T.i Sq.rs ?_ (fun z => by cases z) fun _ Gr Hr gr => cont _ _ ⟨Gr, _, _, Sq.grow gr⟩
      unfold notB
      rw [toB_ev (b := true) (aE_ev (ds := [rowD (nearer q4), rowD (nearer q4)]) (consA_ev (v2 1 _ _ rfl rfl (hh.2.1.trans (first_ev (sure1 gs).1 (sure1 gt).1 htw hp4 hc2))) (consA_ev (aE_ev (ds := [.list ((nearer q4).map mvD)]) rfl rfl) rfl)) (same_row _))]
      rfl
    rintro σ9 Hpp ⟨Gp, x11, x12, Sp⟩
    obtain ⟨k, hk⟩ := Int.eq_ofNat_of_zero_le h0
    refine seq_set (Sp.call (ds := [.int (D4 q4), .list turnsD]) (by decide) ?_ ⟨k, turnsD, by rw [hk], by omega, by decide, by decide⟩ fun d v Gq Hq hr gq Sq rq => ?_)
    · exact consA_ev rfl (consA_ev turns_ev rfl)
    obtain ⟨k', gs', ys, e, rfl, hlen, hys⟩ := hr
    simp only [List.cons.injEq, PyData.int.injEq, PyData.list.injEq, and_true] at e
    obtain ⟨e1, rfl⟩ := e
    obtain ⟨ms2, rfl, hms2⟩ := ms_of hys
    rw [List.length_map] at hlen
    have S' := Sq.set 6 (by decide) rq
    refine (show ∀ {te : TE} {De : Ends} {σ : L2.St} {H : Hp}, te σ H De.rt → tRet te De σ H from fun h => h) ?_
    refine S'.dat (d := .bool true) ?_ fun v' G' H' g r => by cases r; exact q H'
    refine aE_ev (ds := [.bool (decide (run s ms2 = two)), .bool (decide (run s ms2 = two))]) (consA_ev (aE_ev (ds := [sD' s, sD' two, rowD ms2]) rfl ?_) (consA_ev ?_ rfl)) (same_bool _)
    · refine (is_plan_ev (sure1 gs).1 (sure1 gt).1 (by omega) hms2).trans ?_
      rw [decide_eq_true hb, hqs, decide_eq_true (show (ms2.length : Int) = D4 q4 by omega), Bool.true_and, Bool.true_and]
    · refine (o2_ev (x := sD' (run s ms2)) (y := sD' two) (aE_ev (ds := [sD' s, rowD ms2]) rfl (law_behind_ev s hms2)) rfl).trans ?_
      rw [dEq_sd, eqSd_iff]
end
end Mv

/-! part U7 -/
set_option maxHeartbeats 4000000
namespace Mv
open PySem PySem.Spec L2
section
variable {P : Program} {w : World} {K : PySem.W.Frag} {mg : Str → Option Value} {base : Heap}

/-! ### _law_box -/
def B_law_box : Ev → Option Out := (sqE (asE 2 (ifE (toB (o2 dLt (vE 1) (aE lenD (consA (vE 0) nilA)))) (o2 dIx (vE 0) (vE 1)) (cE (.int 0))))
  (rtE (aE mkL (consA (o2 dMul (aE absD (consA (vE 2) nilA)) (aE intD (consA (o2 dGe (aE absD (consA (vE 2) nilA)) (o2 dPow (cE (.int 10)) (cE (.int 18)))) nilA))) (consA (o2 dAdd (o2 dAdd (o2 dMod (aE intD (consA (vE 2) nilA)) (cE (.int 2305843009213693951))) (o2 dMul (cE (.int 39373)) (vE 1))) (cE (.int 3194025))) (consA (cE (.int 0)) nilA))))))
def F_law_box : List D → Option D := runF 2 3 B_law_box
theorem sc_law_box : FnScope ["_law_script", "_law_k", "_law_bit_so"] ["_law_script", "_law_k"] (defScope (topS 55)) := ⟨rfl, rfl, rfl, by decide +kernel, rfl, by decide +kernel, by decide +kernel⟩
theorem cal_law_box (B : Bt mg) (F : Df K mg "_law_box" (topS 55) ["_law_script", "_law_k"])    : Cal P w K mg base 1 "_law_box" F_law_box :=
  cal_D (N := ["_law_script", "_law_k", "_law_bit_so"]) F sc_law_box fun f cdv A outer s H E hr => have nd := (sc_law_box).nd
    (zc (zset (i := 2) nd rfl (Or.inl rfl) (xif (tcmp op_dLt (xv 1 rfl (Or.inl rfl)) (xcallB cl_len (by decide +kernel) B.len_ rfl (ac (xv 0 rfl (Or.inl rfl)) an)) (nomark _)) (xix (xv 0 rfl (Or.inl rfl)) (xv 1 rfl (Or.inl rfl))) xc_int))
    (z1 (zret (xlst (ac (xo2 op_dMul (xcallB cl_abs (by decide +kernel) B.abs_ rfl (ac (xv 2 rfl (Or.inl rfl)) an)) (xcallTy cl_int (by decide +kernel) B.int_ rfl (ac (xcmp op_dGe (xcallB cl_abs (by decide +kernel) B.abs_ rfl (ac (xv 2 rfl (Or.inl rfl)) an)) (xo2 op_dPow xc_int xc_int) (nomark _)) an))) (ac (xo2 op_dAdd (xo2 op_dAdd (xo2 op_dMod (xcallTy cl_int (by decide +kernel) B.int_ rfl (ac (xv 2 rfl (Or.inl rfl)) an)) xc_int) (xo2 op_dMul xc_int (xv 1 rfl (Or.inl rfl)))) xc_int) (ac xc_int an)))))))

end
theorem box_ev (x : Int) (xs : List D) : ∃ a b : Int, F_law_box [.list (.int x :: xs), .int 0] = some (.list [.int a, .int b, .int 0]) := by
  have e1 : aE absD (consA (vE 2) nilA) [some (.list (.int x :: xs)), some (.int 0), some (.int x)] = some (.int (if x < 0 then -x else x)) := rfl
  have e2 : o2 dPow (cE (.int 10)) (cE (.int 18)) [some (.list (.int x :: xs)), some (.int 0), some (.int x)] = some (.int (10 ^ 18)) := by kernel_rfl
  generalize (if x < 0 then -x else x) = y at e1
  refine ⟨y * (if decide ((10 : Int) ^ 18 ≤ y) then 1 else 0), x % 2305843009213693951 + 39373 * 0 + 3194025, ?_⟩
  unfold F_law_box
  rw [run2]
  unfold B_law_box
  refine end_nx (ρ' := [some (.list (.int x :: xs)), some (.int 0), some (.int x)]) ?_ (end_rt ?_)
  · unfold asE
    rw [if_ev (x := .int x) (y := .int 0) true ?_ rfl rfl]
    · rfl
    · refine toB_ev ((o2_ev (x := .int 0) (y := .int ((PyData.int x :: xs).length : Nat)) rfl rfl).trans ?_)
      show some (PyData.bool (decide ((0 : Int) < _))) = _
      rw [decide_eq_true (by rw [List.length_cons]; omega)]
  · refine aE_ev (consA_ev ?_ (consA_ev ?_ (consA_ev rfl rfl))) rfl
    · refine (o2_ev (x := .int y) (y := .int (if decide ((10 : Int) ^ 18 ≤ y) then 1 else 0)) e1 (aE_ev (ds := [.bool (decide ((10 : Int) ^ 18 ≤ y))]) (consA_ev ((o2_ev e1 e2).trans rfl) rfl) rfl)).trans (dMul_ev ?_)
      cases decide ((10 : Int) ^ 18 ≤ y) <;> simp [small] <;> decide
    · rfl
end Mv

/-! part U8 -/
set_option maxHeartbeats 4000000
namespace Mv
open PySem PySem.Spec L2

/-! ### _law_cells -/
def N_cells : List Str := ["_law_script", "_law_most_so", "_law_cells_so", "_law_k", "_law_bit_so", "_law_at_so"]
theorem sc_law_cells : FnScope N_cells ["_law_script", "_law_most_so"] (defScope (topS 57)) := ⟨rfl, rfl, rfl, by decide +kernel, rfl, by decide +kernel, by decide +kernel⟩
def spCells (K : PySem.W.Frag) : Sp := fun vs H Q _ => ∃ (a : Addr) (ns : List Int), vs = [.ref a, .int 1] ∧ SqL K H a (ns.map V.int) ∧ ns.length ≤ 63 ∧ ∀ (p : Addr) (z : Int) (zs : List Int) (H' : Hp), Same H H' → H' p = some (.lst ((z :: zs).map V.int)) → Q (.ref p) H'
theorem Rs.put {K : PySem.W.Frag} {G : Hp} {σ : L2.St} {ρ : Ev} {i : Nat} {v : V} {d : D} (r : Rs K G σ ρ) (h : σ[i]? = some (some v)) (rp : Rp K G v d) : Rs K G σ (stE ρ i (some d)) := by
  refine ⟨by rw [stE_len]; exact r.len, fun j e q => ?_⟩
  rcases nth_stE ρ i j _ e q with ⟨rfl, z⟩ | ⟨ne, z⟩
  · cases z; exact ⟨v, h, rp⟩
  · exact r.at_ j e z
theorem rs_none {K : PySem.W.Frag} {G : Hp} {σ : L2.St} (h : σ.length = 6) : Rs K G σ [none, none, none, none, none, none] := by
  refine ⟨h, fun j e q => ?_⟩
  match j with
  | 0 => cases q
  | 1 => cases q
  | 2 => cases q
  | 3 => cases q
  | 4 => cases q
  | 5 => cases q
  | j + 6 => cases q
theorem sqL_same {K : PySem.W.Frag} {H H' : Hp} {a : Addr} {xs : List V} (e : Same H H') (h : SqL K H a xs) : SqL K H' a xs := by
  rcases h with (h | ⟨o, h⟩) | h
  · exact .inl (.inl (e _ _ h))
  · exact .inl (.inr ⟨o, e _ _ h⟩)
  · exact .inr h
theorem cut_map (ns : List Int) (lo hi : Option Int) : ∃ zs : List Int, cutV (ns.map V.int) lo hi = zs.map V.int ∧ zs.length ≤ ns.length := by
  refine ⟨(ns.drop (HT.sIx ns.length 0 lo)).take (HT.sIx ns.length ns.length hi - HT.sIx ns.length 0 lo), ?_, by rw [List.length_take, List.length_drop]; omega⟩
  unfold cutV
  rw [List.length_map, ← List.map_drop, ← List.map_take]
theorem seq_set_join {te : TE} {u : TS} {De : Ends} {σ : L2.St} {H : Hp} {i : Nat} (J : V → Hp → Prop) (h2 : ∀ v H', J v H' → u De (σ.set i (some v)) H') (h1 : ∀ Q : VK, (∀ v H', J v H' → Q v H') → te σ H Q) : tSeq (tAsg te (gName i)) u De σ H := h1 _ h2
theorem ints_rp {K : PySem.W.Frag} {G : Hp} : ∀ zs : List Int, RpAll K G (zs.map V.int) (zs.map PyData.int)
  | [] => .nil
  | z :: zs => .cons (.int z) (ints_rp zs)
section
variable {P : Program} {w : World} {K : PySem.W.Frag} {mg : Str → Option Value} {base : Heap}
theorem cal_cells (B : Bt mg) (F : Df K mg "_law_cells" (topS 57) ["_law_script", "_law_most_so"]) : CalS P w K mg base 1 "_law_cells" (spCells K) := by
  obtain ⟨f, fd, F, hm, hbi⟩ := F.ex
  refine ⟨f, fd, _, ?_, hm, F.kp, hbi⟩
  refine F.ok sc_law_cells (fun vs H Q E h => ?_) (fun cdv A outer s H vs Q E hr h => ?_)
  · obtain ⟨a, ns, rfl, _⟩ := h; rfl
  have nd := sc_law_cells.nd
  refine ⟨_, pss_cons (ps_set (i := 2) nd rfl (Or.inl rfl) (pe_orT (pe_callTy call_list_of rfl B.list_ (by decide +kernel) (pa_cons (pe_slice sl_list (pe_var (i := 0) rfl (Or.inl rfl)) pno (psm (xv 1 rfl (Or.inl rfl)))) pa_nil)) (xone (xlst (ac xc_int an)))))
    (pss_cons (ps_for PassesOwn.never rfl (pi_enum rfl B.enumerate_ (pa_cons (pe_slice sl_list (pe_var (i := 0) rfl (Or.inl rfl)) (psm (xv 1 rfl (Or.inl rfl))) (psm xc_int)) pa_nil)) (pg_tup rfl (pgs_cons (pg_name (i := 3) nd rfl (Or.inl rfl)) (pgs_cons (pg_name (i := 4) nd rfl (Or.inl rfl)) pgs_nil)))
      (pss_cons (ps_set (i := 5) nd rfl (Or.inl rfl) (xo2 op_dMod (xcallTy cl_int (by decide +kernel) B.int_ rfl (ac (xv 3 rfl (Or.inl rfl)) an)) (xv 1 rfl (Or.inl rfl))))
        (pss_one (ps_asg (xo2 op_dAdd (xix (xv 2 rfl (Or.inl rfl)) (xv 5 rfl (Or.inl rfl))) (xo2 op_dMul (xv 4 rfl (Or.inl rfl)) (xo2 op_dAdd (xv 3 rfl (Or.inl rfl)) xc_int))) (pg_sub (pe_var (i := 2) rfl (Or.inl rfl)) (xv 5 rfl (Or.inl rfl)) set_list (by intro _; rfl))))))
    (pss_one (ps_ret (pe_var (i := 2) rfl (Or.inl rfl))))), ?_⟩
  obtain ⟨a, ns, rfl, hsq, hlen, q⟩ := h
  have l0 : (L2.start N_cells [.ref a, .int 1]).length = 6 := rfl
  have a0 : (L2.start N_cells [.ref a, .int 1])[0]? = some (some (.ref a)) := rfl
  have a1 : (L2.start N_cells [.ref a, .int 1])[1]? = some (some (.int 1)) := rfl
  generalize L2.start N_cells [.ref a, .int 1] = σ0 at l0 a0 a1
  have eE : ∀ H : Hp, Same (fun _ => none) H := fun H b o z => by cases z
  have r1 : ∀ {G : Hp} {σ : L2.St}, σ.length = 6 → σ[1]? = some (some (.int 1)) → Rs K G σ [none, some (.int 1), none, none, none, none] := fun l h => (rs_none l).put h (.int 1)
  refine seq_set_join (fun v H' => ∃ p z zs, v = .ref p ∧ Same H H' ∧ H' p = some (.lst ((z :: zs).map V.int)) ∧ H p = none) ?_ fun Q' hQ => ?_
  rotate_left
  · refine ⟨.ref a, a0, _, _, none, eE H, r1 l0 a1, rfl, fun G1 H1 g1 => ⟨_, _, some 1, eE H1, r1 l0 a1, rfl, fun G2 H2 g2 => ?_⟩⟩
    have s2 := g1.h.trans g2.h
    obtain ⟨zs, hz, hzl⟩ := cut_map ns none (some 1)
    refine ⟨a, _, rfl, sqL_same s2 hsq, fun p hp => ⟨p, _, rfl, .inl (.inl (.inl upd_same)), fun p' hp' => ?_⟩⟩
    rw [hz] at hp' ⊢
    have s3 : Same H (upd (upd H2 p (.lst (zs.map V.int))) p' (.lst (zs.map V.int))) := s2.trans ((same_new hp).trans (same_new hp'))
    cases zs with
    | nil =>
      refine ⟨false, .inl ⟨_, .inl (.inl upd_same), rfl⟩, iteF ?_⟩
      refine ⟨_, _, .list [.int 0], eE _, r1 l0 a1, rfl, fun v G4 H4 g4 r4 => hQ _ _ ?_⟩
      cases r4 with
      | @lst p3 xs _ h1 h2 =>
        cases h2 with
        | cons h2 h3 =>
          cases h2; cases h3
          refine ⟨p3, 0, [], rfl, s3.trans g4.h, g4.i _ _ h1, s3.free ?_⟩
          cases qq : (upd (upd H2 p (.lst (([] : List Int).map V.int))) p' (.lst (([] : List Int).map V.int))) p3 with
          | none => rfl
          | some o =>
            have e1 := g4.h _ _ qq
            rw [g4.i _ _ h1] at e1
            have e2 := g4.n p3 (by rw [qq, ← e1]; trivial) rfl
            rw [h1] at e2; cases e2
    | cons z zs =>
      exact ⟨true, .inl ⟨_, .inl (.inl upd_same), rfl⟩, iteT (hQ _ _ ⟨p', z, zs, rfl, s3, upd_same, (s2.trans (same_new hp)).free hp'⟩)⟩
  rintro v H1 ⟨p, z0, zs0, rfl, sH, hp0, hfr⟩
  have b0 : (σ0.set 2 (some (.ref p)))[0]? = some (some (.ref a)) := by rw [List.getElem?_set_ne (by decide)]; exact a0
  have b1 : (σ0.set 2 (some (.ref p)))[1]? = some (some (.int 1)) := by rw [List.getElem?_set_ne (by decide)]; exact a1
  have b2 : (σ0.set 2 (some (.ref p)))[2]? = some (some (.ref p)) := List.getElem?_set_self (by omega)
  have lb : (σ0.set 2 (some (.ref p))).length = 6 := by rw [List.length_set]; exact l0
  generalize σ0.set 2 (some (.ref p)) = σ1 at b0 b1 b2 lb
  refine ⟨.ref a, b0, _, _, some 1, eE H1, r1 lb b1, rfl, fun G2 H2 g2 => ⟨_, _, some 63, eE H2, r1 lb b1, rfl, fun G3 H3 g3 => ?_⟩⟩
  have s3 := g2.h.trans g3.h
  obtain ⟨bs, hz, hzl⟩ := cut_map ns (some 1) (some 63)
  refine ⟨a, _, rfl, sqL_same (sH.trans s3) hsq, fun p2 hp2 => ?_⟩
  rw [hz]
  have hp3 := s3 _ _ hp0
  have np : p ≠ p2 := fun z => by rw [← z, hp3] at hp2; cases hp2
  refine ⟨p2, _, rfl, .inl (.inl upd_same), ?_⟩
  refine ⟨fun i m σ H4 => m = bs.length - i ∧ i ≤ bs.length ∧ σ.length = 6 ∧ σ[1]? = some (some (.int 1)) ∧ σ[2]? = some (some (.ref p)) ∧ Same H H4 ∧ H4 p2 = some (.lst (bs.map V.int)) ∧ ∃ z zs, H4 p = some (.lst ((z :: zs).map V.int)),
    ⟨_, rfl, Nat.zero_le _, lb, b1, b2, sH.trans (s3.trans (same_new hp2)), upd_same, z0, zs0, by rw [upd_ne np]; exact hp3⟩, ?_⟩
  rintro i m σ H4 ⟨rfl, hi, hl, h1, h2, s4, hb, z, zs, hp⟩
  by_cases hlt : i < bs.length
  · refine .inr ⟨⟨_, .int bs[i], .inl (.inl hb), by rw [List.getElem?_map, List.getElem?_eq_getElem hlt]; rfl⟩, fun σ' H' => i + 1 ≤ bs.length ∧ σ'.length = 6 ∧ σ'[1]? = some (some (.int 1)) ∧ σ'[2]? = some (some (.ref p)) ∧ Same H H' ∧ H' p2 = some (.lst (bs.map V.int)) ∧ ∃ z zs, H' p = some (.lst ((z :: zs).map V.int)), fun σ' H' h => ⟨bs.length - (i + 1), by omega, rfl, h⟩, ?_⟩
    rintro x H5 ⟨T, y, rfl, hT, rfl, hy⟩
    have ey := hy _ (.inl (.inl hb))
    rw [List.getElem?_map, List.getElem?_eq_getElem hlt] at ey
    cases ey
    have sT := same_new (o := .tup [.int (i : Nat), .int bs[i]]) hT
    refine ⟨T, _, rfl, SqT.of upd_same, rfl, .int (i : Nat), [.int bs[i]], rfl, .int bs[i], [], rfl, rfl, ?_⟩
    have nT : p ≠ T := fun z => by rw [← z, hp] at hT; cases hT
    have nT2 : p2 ≠ T := fun z => by rw [← z, hb] at hT; cases hT
    have hp5 := sT _ _ hp
    have hb5 := sT _ _ hb
    have hl63 : i < 63 := by omega
    generalize bs[i] = b at *
    have c1 : (((σ.set 3 (some (.int (i : Nat)))).set 4 (some (.int b))))[1]? = some (some (.int 1)) := by rw [List.getElem?_set_ne (by decide), List.getElem?_set_ne (by decide)]; exact h1
    have c2 : (((σ.set 3 (some (.int (i : Nat)))).set 4 (some (.int b))))[2]? = some (some (.ref p)) := by rw [List.getElem?_set_ne (by decide), List.getElem?_set_ne (by decide)]; exact h2
    have c3 : (((σ.set 3 (some (.int (i : Nat)))).set 4 (some (.int b))))[3]? = some (some (.int (i : Nat))) := by rw [List.getElem?_set_ne (by decide)]; exact List.getElem?_set_self (by omega)
    have c4 : (((σ.set 3 (some (.int (i : Nat)))).set 4 (some (.int b))))[4]? = some (some (.int b)) := List.getElem?_set_self (by rw [List.length_set]; omega)
    have lc : ((σ.set 3 (some (.int (i : Nat)))).set 4 (some (.int b))).length = 6 := by rw [List.length_set, List.length_set]; exact hl
    generalize (σ.set 3 (some (.int (i : Nat)))).set 4 (some (.int b)) = σ2 at c1 c2 c3 c4 lc
    have s5 := s4.trans sT
    generalize upd H4 T _ = H5 at hp5 hb5 s5 ⊢
    have rs2 : ∀ G, Rs K G σ2 [none, some (.int 1), none, some (.int (i : Nat)), some (.int b), none] := fun G => ((r1 lc c1).put c3 (.int _)).put c4 (.int b)
    refine seq_set ⟨fun _ => none, _, .int 0, eE _, rs2 _, ?_, fun v G6 H6 g6 r6 => ?_⟩
    · refine (o2_ev (x := .int (i : Nat)) (y := .int 1) rfl rfl).trans ?_
      show some (PyData.int (((i : Nat) : Int) % 1)) = _
      rw [Int.emod_one]
    cases r6
    have d1 : (σ2.set 5 (some (.int 0)))[1]? = some (some (.int 1)) := by rw [List.getElem?_set_ne (by decide)]; exact c1
    have d2 : (σ2.set 5 (some (.int 0)))[2]? = some (some (.ref p)) := by rw [List.getElem?_set_ne (by decide)]; exact c2
    have ld : (σ2.set 5 (some (.int 0))).length = 6 := by rw [List.length_set]; exact lc
    have rs3 : ∀ G, Rs K G (σ2.set 5 (some (.int 0))) [none, some (.int 1), none, some (.int (i : Nat)), some (.int b), some (.int 0)] := fun G => (rs2 G).set 5 (.int 0)
    generalize σ2.set 5 (some (.int 0)) = σ3 at d1 d2 ld rs3
    have hp6 := g6.h _ _ hp5
    let G7 : Hp := fun x => if x = p then some (.lst ((z :: zs).map V.int)) else none
    have s7 : Same G7 H6 := fun x o e => by
      by_cases hx : x = p
      · rw [hx, hp6]; rw [hx] at e; exact (if_pos rfl).symm.trans e
      · have e' : (none : Option HO) = some o := (if_neg hx).symm.trans e
        cases e'
    have rl : Rp K G7 (.ref p) (.list ((z :: zs).map PyData.int)) := .lst (if_pos rfl) (ints_rp _)
    refine ⟨G7, [none, some (.int 1), some (.list ((z :: zs).map PyData.int)), some (.int (i : Nat)), some (.int b), some (.int 0)], .int (z + b * ((i : Nat) + 2)), s7, (rs3 G7).put d2 rl, ?_, fun v G8 H8 g8 r8 => ?_⟩
    · refine (o2_ev (x := .int z) (y := .int (b * ((i : Nat) + 2))) rfl ((o2_ev (x := .int b) (y := .int ((i : Nat) + 2)) rfl rfl).trans (dMul_ev ?_))).trans rfl
      have : small (((i : Nat) : Int) + 2) = true := by unfold small; exact Nat.ble_eq_true_of_le (by omega)
      rw [this, Bool.or_true]
    cases r8
    refine ⟨.ref p, d2, fun _ => none, _, .int 0, eE _, rs3 _, rfl, fun y G9 H9 g9 r9 => ?_⟩
    cases r9
    have hp9 := g9.h _ _ (g8.h _ _ hp6)
    have hb9 := g9.h _ _ (g8.h _ _ (g6.h _ _ hb5))
    refine ⟨p, (z :: zs).map V.int, 0, 0, rfl, rfl, hp9, ?_, hlt, ld, d1, d2, fun x o e => ?_, ?_, z + b * ((i : Nat) + 2), zs, upd_same⟩
    · unfold ixN
      rw [if_pos (by decide), if_pos (by simp)]
      rfl
    · rw [upd_ne (fun z => by rw [z, hfr] at e; cases e)]
      exact g9.h _ _ (g8.h _ _ (g6.h _ _ (s5 _ _ e)))
    · rw [upd_ne np.symm]; exact hb9
  · refine .inl ⟨⟨_, .inl (.inl hb), by rw [List.length_map]; omega⟩, ?_⟩
    exact ⟨.ref p, h2, q p z zs H4 s4 hp⟩
end
end Mv

/-! part U9 -/
set_option maxHeartbeats 4000000
namespace Mv
open PySem PySem.Spec L2

/-! ### law -/
theorem sc_law : FnScope ["_law_script"] ["_law_script"] (defScope (topS 82)) := ⟨rfl, rfl, rfl, by decide +kernel, rfl, by decide +kernel, by decide +kernel⟩
def spLaw (K : PySem.W.Frag) : Sp := fun vs H Q _ => ∃ (a : Addr) (ns : List Int), vs = [.ref a] ∧ SqL K H a (ns.map V.int) ∧ ns.length ≤ 63 ∧ ∀ H', Q (.bl true) H'
section
variable {P : Program} {w : World} {K : PySem.W.Frag} {mg : Str → Option Value} {base : Heap}
theorem fn_law {f : Addr} {fd : FuncData} (B : Bt mg) (F : Fun K "law" "law" (topS 82) f fd) (cH : Cal P w K mg base 13 "_law_by_hand_right" F_law_by_hand_right) (cB : Cal P w K mg base 1 "_law_box" F_law_box) (cC : CalS P w K mg base 1 "_law_cells" (spCells K)) (cR : CalS P w K mg base 14 "_law_right" spRight) : FnOk P w K mg base CX0 15 f fd ["_law_script"] (spLaw K) := by
  obtain ⟨fB, fdB, psB, FB, mB, kB, bB⟩ := cB.ex
  obtain ⟨fC, fdC, psC, FC, mC, kC, bC⟩ := cC.ex
  obtain ⟨fR, fdR, psR, FR, mR, kR, bR⟩ := cR.ex
  refine F.ok sc_law (fun vs H Q E h => ?_) (fun cdv A outer s H vs Q E hr h => ?_)
  · obtain ⟨a, ns, rfl, _⟩ := h; rfl
  have nd := sc_law.nd
  have hr1 := hr.mono (show 1 ≤ 14 by decide)
  refine ⟨_, pss_one (ps_ret (pe_and (xcall0 cH hr (by decide) rfl) (pe_one (pe_call FR hr rfl mR kR bR .nil pass0 (pa_cons (pe_call FB hr1 rfl mB kB bB .nil pass0 (pa_cons (pe_call FC hr1 rfl mC kC bC .nil pass0 (pa_cons (pe_var (i := 0) rfl (Or.inl rfl)) (ac xc_int an))) (ac xc_int an))) pa_nil))))), ?_⟩
  obtain ⟨a, ns, rfl, hsq, hlen, q⟩ := h
  have eE : ∀ H : Hp, Same (fun _ => none) H := fun H b o z => by cases z
  have rE : ∀ G : Hp, Rs K G (L2.start ["_law_script"] [.ref a]) [none] := fun G => ⟨rfl, fun j e z => by
    match j with
    | 0 => cases z
    | j + 1 => cases z⟩
  refine ⟨fun _ => none, [none], .bool true, eE H, rE _, aE_ev (ds := []) rfl by_hand_true, fun v G1 H1 g1 r1 => ?_⟩
  cases r1
  refine ⟨true, rfl, iteT ?_⟩
  refine ⟨.ref a, rfl, fun _ => none, [none], [.int 1], eE H1, rE _, rfl, fun vs G2 H2 g2 r2 => ?_⟩
  cases r2 with
  | cons r2 r2' =>
  cases r2; cases r2'
  refine ⟨a, ns, rfl, sqL_same (g1.h.trans g2.h) hsq, hlen, fun p z zs H3 s3 hp3 => ?_⟩
  refine ⟨fun _ => none, [none], [.int 0], eE H3, rE _, rfl, fun vs G4 H4 g4 r4 => ?_⟩
  cases r4 with
  | cons r4 r4' =>
  cases r4; cases r4'
  have hp4 := g4.h _ _ hp3
  obtain ⟨x, y, hb⟩ := box_ev z (zs.map PyData.int)
  let G7 : Hp := fun x => if x = p then some (.lst ((z :: zs).map V.int)) else none
  have s7 : Same G7 H4 := fun x o e => by
    by_cases hx : x = p
    · rw [hx, hp4]; rw [hx] at e; exact (if_pos rfl).symm.trans e
    · have e' : (none : Option HO) = some o := (if_neg hx).symm.trans e
      cases e'
  have rl : Rp K G7 (.ref p) (.list ((z :: zs).map PyData.int)) := .lst (if_pos rfl) (ints_rp _)
  refine ⟨G7, [.list ((z :: zs).map PyData.int), .int 0], _, s7, .cons rl (.cons (.int 0) .nil), hb, fun v G5 H5 g5 r5 => ?_⟩
  cases r5 with
  | @lst p3 xs _ h1 h2 =>
    cases h2 with
    | cons u1 h2 =>
    cases h2 with
    | cons u2 h2 =>
    cases h2 with
    | cons u3 h2 =>
    cases u1; cases u2; cases u3; cases h2
    exact ⟨p3, rfl, ⟨x, y, 0, g5.i _ _ h1, by decide, by decide⟩, fun H' => q H'⟩
end
end Mv

/-! part X1 -/
set_option maxHeartbeats 4000000
namespace Mv
open PySem PySem.Spec L2
section
variable {P : Program} {w : World} {K : PySem.W.Frag} {mg : Str → Option Value} {base : Heap} {C : Addr}
theorem CalX.mono {j k : Nat} {x : Str} {R : List D → Bool} (c : CalX P w K mg base C j x R) (h : j ≤ k) : CalX P w K mg base C k x R := by
  obtain ⟨f, fd, ps, F, r⟩ := c.ex
  exact ⟨f, fd, ps, F.mono h, r⟩
/-- all defs joined -/
theorem all_join (B : Bt mg) (T : Cn K mg C) (g_HANDS : Gc K mg "HANDS" handsD) (g_MOST_TURNED : Gc K mg "MOST_TURNED" (.int 2000)) (g_RING : Gc K mg "RING" ringD)
    (d_is_number : Df K mg "is_number" (topS 5) ["thing"])
    (d_is_within : Df K mg "is_within" (topS 6) ["thing", "least", "most"])
    (d_is_long : Df K mg "is_long" (topS 7) ["thing", "length"])
    (d_more_at : Df K mg "more_at" (topS 18) ["row", "place", "by"])
    (d_flipped : Df K mg "flipped" (topS 19) ["row", "place"])
    (d_tipped_in : Df K mg "tipped_in" (topS 20) ["stand", "way"])
    (d_turned_in : Df K mg "turned_in" (topS 21) ["stand", "corner", "hand"])
    (d_moved_in : Df K mg "moved_in" (topS 22) ["stand", "move"])
    (d_tupled : Df K mg "tupled" (topS 8) ["value"])
    (d_are_numbers : Df K mg "are_numbers" (topS 10) ["thing"])
    (d_is_shape : Df K mg "is_shape" (topS 13) ["thing"])
    (d_is_stand : Df K mg "is_stand" (topS 15) ["thing"])
    (d_sure_stand : Df K mg "sure_stand" (topS 16) ["stand"])
    (d_is_move : Df K mg "is_move" (topS 17) ["thing"])
    (d_is_row_in : Df K mg "is_row_in" (topS 24) ["thing"])
    (d_behind_in : Df K mg "behind_in" (topS 25) ["stand", "row"])
    (d_both_stands : Df K mg "both_stands" (topS 29) ["stand", "goal"])
    (d_twofold_at : Df K mg "twofold_at" (topS 30) ["stand", "goal", "side"])
    (d_has_slants : Df K mg "has_slants" (topS 31) ["stand", "goal"])
    (d_slants_in : Df K mg "slants_in" (topS 32) ["stand", "goal"])
    (d_are_paired : Df K mg "are_paired" (topS 33) ["slants"])
    (d_stand_slanted : Df K mg "stand_slanted" (topS 34) ["stand", "slants"])
    (d_bar_in : Df K mg "bar_in" (topS 35) ["stand", "goal"])
    (d_can_turn_to : Df K mg "can_turn_to" (topS 36) ["stand", "goal"])
    (d_east_north : Df K mg "east_north" (topS 38) ["corner"])
    (d_corner_at : Df K mg "corner_at" (topS 39) ["east", "north"])
    (d_turn_by : Df K mg "turn_by" (topS 40) ["number", "one", "other"])
    (d_turns_by_slants : Df K mg "turns_by_slants" (topS 41) ["slants"])
    (d_fewest_turned_in : Df K mg "fewest_turned_in" (topS 43) ["stand", "goal"])
    (d_ones_for : Df K mg "ones_for" (topS 47) ["number", "many"])
    (d_turns_told : Df K mg "turns_told" (topS 48) ["slants"])
    (d_turn_plan_in : Df K mg "turn_plan_in" (topS 49) ["stand", "goal"])
    (d_are_turns : Df K mg "are_turns" (topS 51) ["row"])
    (d_is_turn_plan_in : Df K mg "is_turn_plan_in" (topS 52) ["stand", "goal", "thing"])
    (d_is_turn_plan : Df K mg "is_turn_plan" (topS 53) ["stand", "goal", "thing"])
    (d__law_lists : Df K mg "_law_lists" (topS 59) ["_law_matter"])
    (d__law_same : Df K mg "_law_same" (topS 60) ["_law_got", "_law_due"])
    (d__law_home : Df K mg "_law_home" (topS 61) [])
    (d__law_poses : Df K mg "_law_poses" (topS 62) [])
    (d__law_plus : Df K mg "_law_plus" (topS 63) ["_law_row_so", "_law_k", "_law_by_so"])
    (d__law_flip : Df K mg "_law_flip" (topS 64) ["_law_row_so", "_law_k"])
    (d__law_tip : Df K mg "_law_tip" (topS 65) ["_law_spot", "_law_way_so"])
    (d__law_turn : Df K mg "_law_turn" (topS 66) ["_law_spot", "_law_corner_so", "_law_hand_so"])
    (d__law_step : Df K mg "_law_step" (topS 67) ["_law_spot", "_law_step_here"])
    (d__law_behind : Df K mg "_law_behind" (topS 68) ["_law_spot", "_law_walk_here"])
    (d__law_tips : Df K mg "_law_tips" (topS 69) [])
    (d__law_turns : Df K mg "_law_turns" (topS 70) [])
    (d__law_lean : Df K mg "_law_lean" (topS 72) ["_law_one", "_law_two"])
    (d__law_word : Df K mg "_law_word" (topS 77) ["_law_one", "_law_two"])
    (d_sure_turned : Df K mg "sure_turned" (topS 42) ["stand", "goal"])
    (d_fewest_turns : Df K mg "fewest_turns" (topS 44) ["stand", "goal"])
    (d_first_turns_in : Df K mg "first_turns_in" (topS 45) ["stand", "goal"])
    (d_turn_plan : Df K mg "turn_plan" (topS 50) ["stand", "goal"])
    (d_why_not_turned : Df K mg "why_not_turned" (topS 37) ["stand", "goal"])
    (d__law_levels : Df K mg "_law_levels" (topS 73) ["_law_first_so", "_law_steps_so", "_law_most_so"])
    (d__law_meet : Df K mg "_law_meet" (topS 74) ["_law_near_so", "_law_far_so"])
    (d_first_turns : Df K mg "first_turns" (topS 46) ["stand", "goal"])
    (d_set_of : Df K mg "set_of" (topS 9) ["row"])
    (d__law_heard : Df K mg "_law_heard" (topS 78) ["_law_door", "_law_one", "_law_two"])
    (d__law_by_hand_right : Df K mg "_law_by_hand_right" (topS 79) [])
    (d__law_plan_right : Df K mg "_law_plan_right" (topS 80) ["_law_one", "_law_two", "_law_few_so"])
    (d__law_take : Df K mg "_law_take" (topS 56) ["_law_tin", "_law_below_so"])
    (d__law_of : Df K mg "_law_of" (topS 58) ["_law_tin", "_law_goods_so"])
    (d__law_walk : Df K mg "_law_walk" (topS 71) ["_law_tin", "_law_many_so", "_law_steps_so"])
    (d__law_somewhere : Df K mg "_law_somewhere" (topS 75) ["_law_tin"])
    (d__law_bent_spot : Df K mg "_law_bent_spot" (topS 76) ["_law_tin", "_law_spot"])
    (d__law_right : Df K mg "_law_right" (topS 81) ["_law_tin"])
    (d__law_box : Df K mg "_law_box" (topS 55) ["_law_script", "_law_k"])
    (d__law_cells : Df K mg "_law_cells" (topS 57) ["_law_script", "_law_most_so"])
    {f : Addr} {fd : FuncData} (F : Fun K "law" "law" (topS 82) f fd) : FnOk P w K mg base CX0 15 f fd ["_law_script"] (spLaw K) := by
  have c_is_number := cal_is_number (P := P) (w := w) (base := base) B d_is_number
  have c_is_within := cal_is_within (P := P) (w := w) (base := base) B d_is_within c_is_number
  have c_is_long := cal_is_long (P := P) (w := w) (base := base) B d_is_long
  have c_more_at := cal_more_at (P := P) (w := w) (base := base) B d_more_at
  have c_flipped := cal_flipped (P := P) (w := w) (base := base) B d_flipped c_more_at
  have c_tipped_in := cal_tipped_in (P := P) (w := w) (base := base) B d_tipped_in c_more_at c_flipped
  have c_turned_in := cal_turned_in (P := P) (w := w) (base := base) B d_turned_in c_more_at c_flipped
  have c_moved_in := cal_moved_in (P := P) (w := w) (base := base) B d_moved_in c_tipped_in c_turned_in
  have c_tupled := cal_tupled (P := P) (w := w) (base := base) B d_tupled
  have c_are_numbers := cal_are_numbers (P := P) (w := w) (base := base) B d_are_numbers c_is_number
  have c_is_shape := cal_is_shape (P := P) (w := w) (base := base) B d_is_shape c_is_long c_is_number g_RING
  have c_is_stand := cal_is_stand (P := P) (w := w) (base := base) B d_is_stand c_is_long c_is_shape c_are_numbers
  have c_sure_stand := cal_sure_stand (P := P) (w := w) (base := base) B d_sure_stand c_tupled c_is_stand
  have c_is_move := cal_is_move (P := P) (w := w) (base := base) B d_is_move c_is_long c_is_within c_is_number
  have c_is_row_in := cal_is_row_in (P := P) (w := w) (base := base) B d_is_row_in c_is_move
  have c_behind_in := cal_behind_in (P := P) (w := w) (base := base) B d_behind_in c_moved_in
  have c_both_stands := cal_both_stands (P := P) (w := w) (base := base) B d_both_stands c_sure_stand
  have c_twofold_at := cal_twofold_at (P := P) (w := w) (base := base) B d_twofold_at
  have c_has_slants := cal_has_slants (P := P) (w := w) (base := base) B d_has_slants c_twofold_at
  have c_slants_in := cal_slants_in (P := P) (w := w) (base := base) B d_slants_in c_twofold_at
  have c_are_paired := cal_are_paired (P := P) (w := w) (base := base) B d_are_paired
  have c_stand_slanted := cal_stand_slanted (P := P) (w := w) (base := base) B d_stand_slanted
  have c_bar_in := cal_bar_in (P := P) (w := w) (base := base) B d_bar_in c_has_slants c_slants_in c_are_paired c_stand_slanted
  have c_can_turn_to := cal_can_turn_to (P := P) (w := w) (base := base) B d_can_turn_to c_both_stands c_bar_in
  have c_east_north := cal_east_north (P := P) (w := w) (base := base) B d_east_north
  have c_corner_at := cal_corner_at (P := P) (w := w) (base := base) B d_corner_at c_east_north
  have c_turn_by := cal_turn_by (P := P) (w := w) (base := base) B d_turn_by c_corner_at
  have c_turns_by_slants := cal_turns_by_slants (P := P) (w := w) (base := base) B d_turns_by_slants
  have c_fewest_turned_in := cal_fewest_turned_in (P := P) (w := w) (base := base) B d_fewest_turned_in c_slants_in c_turns_by_slants
  have c_ones_for := cal_ones_for (P := P) (w := w) (base := base) B d_ones_for
  have c_turns_told := cal_turns_told (P := P) (w := w) (base := base) B d_turns_told c_ones_for c_turn_by
  have c_turn_plan_in := cal_turn_plan_in (P := P) (w := w) (base := base) B d_turn_plan_in c_slants_in c_turns_told
  have c_are_turns := cal_are_turns (P := P) (w := w) (base := base) B d_are_turns
  have c_is_turn_plan_in := cal_is_turn_plan_in (P := P) (w := w) (base := base) B d_is_turn_plan_in c_is_row_in c_are_turns c_fewest_turned_in c_behind_in g_MOST_TURNED
  have c_is_turn_plan := cal_is_turn_plan (P := P) (w := w) (base := base) B d_is_turn_plan c_both_stands c_bar_in c_is_turn_plan_in
  have c__law_lists := cal_law_lists (P := P) (w := w) (base := base) B d__law_lists
  have c__law_same := cal_law_same (P := P) (w := w) (base := base) B d__law_same
  have c__law_home := cal_law_home (P := P) (w := w) (base := base) B d__law_home
  have c__law_poses := cal_law_poses (P := P) (w := w) (base := base) B d__law_poses
  have c__law_plus := cal_law_plus (P := P) (w := w) (base := base) B d__law_plus
  have c__law_flip := cal_law_flip (P := P) (w := w) (base := base) B d__law_flip
  have c__law_tip := cal_law_tip (P := P) (w := w) (base := base) B d__law_tip c__law_plus c__law_flip
  have c__law_turn := cal_law_turn (P := P) (w := w) (base := base) B d__law_turn c__law_plus c__law_flip
  have c__law_step := cal_law_step (P := P) (w := w) (base := base) B d__law_step c__law_tip c__law_turn
  have c__law_behind := cal_law_behind (P := P) (w := w) (base := base) B d__law_behind c__law_step
  have c__law_tips := cal_law_tips (P := P) (w := w) (base := base) B d__law_tips
  have c__law_turns := cal_law_turns (P := P) (w := w) (base := base) B d__law_turns
  have c__law_lean := cal_law_lean (P := P) (w := w) (base := base) B d__law_lean
  have c__law_word := cal_law_word (P := P) (w := w) (base := base) B d__law_word c__law_lean c__law_flip
  have c_sure_turned := cal_sure_turned (P := P) (w := w) (base := base) B d_sure_turned c_both_stands c_bar_in
  have c_fewest_turns := cal_fewest_turns (P := P) (w := w) (base := base) B d_fewest_turns c_sure_turned c_fewest_turned_in
  have c_first_turns_in := cal_first_turns_in (P := P) (w := w) (base := base) B d_first_turns_in c_fewest_turned_in c_moved_in g_HANDS
  have c_turn_plan := cal_turn_plan (P := P) (w := w) (base := base) B d_turn_plan c_sure_turned c_fewest_turned_in c_turn_plan_in g_MOST_TURNED
  have c_why_not_turned := cal_why_not_turned (P := P) (w := w) (base := base) B d_why_not_turned c_both_stands c_bar_in
  have s__law_levels := CalS.mk (cal_law_levels (P := P) (w := w) (base := base) B d__law_levels c__law_step)
  have s__law_meet := CalS.mk (cal_law_meet (P := P) (w := w) (base := base) B d__law_meet)
  have x_sure_turned := calX_sure_turned (P := P) (w := w) (base := base) T d_sure_turned c_both_stands c_bar_in
  have x_why_not_turned := calX_why_not_turned (P := P) (w := w) (base := base) T d_why_not_turned c_both_stands c_bar_in
  have x_fewest_turns := calX_fewest_turns (P := P) (w := w) (base := base) d_fewest_turns x_sure_turned
  have x_turn_plan := calX_turn_plan (P := P) (w := w) (base := base) d_turn_plan x_sure_turned
  have x_first_turns := calX_first_turns (P := P) (w := w) (base := base) d_first_turns x_sure_turned
  have c_set_of := cal_set_of (P := P) (w := w) (base := base) B d_set_of
  have c_first_turns := cal_first_turns (P := P) (w := w) (base := base) B d_first_turns c_sure_turned c_first_turns_in c_set_of
  have k_can_turn_to := calK_can_turn_to (P := P) (w := w) (base := base) B d_can_turn_to c_both_stands c_bar_in
  have k_fewest_turns := calK_fewest_turns (P := P) (w := w) (base := base) B d_fewest_turns c_sure_turned c_fewest_turned_in
  have k_is_turn_plan := calK_is_turn_plan (P := P) (w := w) (base := base) B d_is_turn_plan c_both_stands c_bar_in c_is_turn_plan_in
  have c__law_heard := cal_law_heard (P := P) (w := w) (base := base) B T d__law_heard c_fewest_turns c_first_turns c_turn_plan (c_why_not_turned.mono (by decide)) x_fewest_turns x_first_turns x_turn_plan (x_why_not_turned.mono (by decide))
  have c__law_by_hand_right := cal_law_by_hand_right (P := P) (w := w) (base := base) B d__law_by_hand_right c__law_home c_fewest_turns c_first_turns c_can_turn_to c__law_lists c_turn_plan c__law_heard c_is_turn_plan c__law_same k_can_turn_to k_is_turn_plan k_fewest_turns
  have c__law_plan_right := cal_law_plan_right (P := P) (w := w) (base := base) B d__law_plan_right c__law_lists c__law_heard c__law_turns c__law_behind c_is_turn_plan
  have n__law_take := cal_take (P := P) (w := w) (base := base) B d__law_take
  have n__law_of := cal_of (P := P) (w := w) (base := base) B d__law_of n__law_take
  have n__law_walk := cal_walk (P := P) (w := w) (base := base) B d__law_walk n__law_of
  have n__law_somewhere := cal_somewhere (P := P) (w := w) (base := base) B d__law_somewhere n__law_take n__law_walk c__law_behind c__law_home c__law_tips c__law_turns
  have n__law_bent_spot := cal_bent (P := P) (w := w) (base := base) B d__law_bent_spot n__law_take n__law_of c__law_flip c__law_plus c__law_poses
  have s__law_right := cal_right (P := P) (w := w) (base := base) B d__law_right n__law_somewhere n__law_take n__law_walk n__law_bent_spot s__law_levels s__law_meet c__law_behind c__law_turns c__law_word c__law_step c_can_turn_to c__law_heard c__law_lists c_is_turn_plan c__law_same c__law_plan_right
  have c__law_box := cal_law_box (P := P) (w := w) (base := base) B d__law_box
  have s__law_cells := cal_cells (P := P) (w := w) (base := base) B d__law_cells
  exact fn_law (P := P) (w := w) (base := base) B F c__law_by_hand_right c__law_box s__law_cells s__law_right
end
end Mv

/-! part F2 -/
set_option maxHeartbeats 4000000
namespace Mv
open PySem PySem.Spec PyProof.Rows L2
section
variable {K : PySem.W.Frag} {h : Heap} {mg : Str → Option Value}
theorem df_is_number (X : K.In h) (G : h.Ns mainGlobals mg) (S : He.SaysD fas fns K) : Df K mg "is_number" (topS 5) ["thing"] :=
  df_of X G (S.fact 0 rfl) (S.def_ 0 (d := dfn "is_number" 5) rfl) fun _ _ _ _ _ _ us hl => match us, hl with | [_], _ => rfl
theorem df_is_within (X : K.In h) (G : h.Ns mainGlobals mg) (S : He.SaysD fas fns K) : Df K mg "is_within" (topS 6) ["thing", "least", "most"] :=
  df_of X G (S.fact 1 rfl) (S.def_ 1 (d := dfn "is_within" 6) rfl) fun _ _ _ _ _ _ us hl => match us, hl with | [_, _, _], _ => rfl
theorem df_is_long (X : K.In h) (G : h.Ns mainGlobals mg) (S : He.SaysD fas fns K) : Df K mg "is_long" (topS 7) ["thing", "length"] :=
  df_of X G (S.fact 2 rfl) (S.def_ 2 (d := dfn "is_long" 7) rfl) fun _ _ _ _ _ _ us hl => match us, hl with | [_, _], _ => rfl
theorem df_more_at (X : K.In h) (G : h.Ns mainGlobals mg) (S : He.SaysD fas fns K) : Df K mg "more_at" (topS 18) ["row", "place", "by"] :=
  df_of X G (S.fact 3 rfl) (S.def_ 3 (d := dfn "more_at" 18) rfl) fun _ _ _ _ _ _ us hl => match us, hl with | [_, _, _], _ => rfl
theorem df_flipped (X : K.In h) (G : h.Ns mainGlobals mg) (S : He.SaysD fas fns K) : Df K mg "flipped" (topS 19) ["row", "place"] :=
  df_of X G (S.fact 4 rfl) (S.def_ 4 (d := dfn "flipped" 19) rfl) fun _ _ _ _ _ _ us hl => match us, hl with | [_, _], _ => rfl
theorem df_tipped_in (X : K.In h) (G : h.Ns mainGlobals mg) (S : He.SaysD fas fns K) : Df K mg "tipped_in" (topS 20) ["stand", "way"] :=
  df_of X G (S.fact 5 rfl) (S.def_ 5 (d := dfn "tipped_in" 20) rfl) fun _ _ _ _ _ _ us hl => match us, hl with | [_, _], _ => rfl
theorem df_turned_in (X : K.In h) (G : h.Ns mainGlobals mg) (S : He.SaysD fas fns K) : Df K mg "turned_in" (topS 21) ["stand", "corner", "hand"] :=
  df_of X G (S.fact 6 rfl) (S.def_ 6 (d := dfn "turned_in" 21) rfl) fun _ _ _ _ _ _ us hl => match us, hl with | [_, _, _], _ => rfl
theorem df_moved_in (X : K.In h) (G : h.Ns mainGlobals mg) (S : He.SaysD fas fns K) : Df K mg "moved_in" (topS 22) ["stand", "move"] :=
  df_of X G (S.fact 7 rfl) (S.def_ 7 (d := dfn "moved_in" 22) rfl) fun _ _ _ _ _ _ us hl => match us, hl with | [_, _], _ => rfl
theorem df_tupled (X : K.In h) (G : h.Ns mainGlobals mg) (S : He.SaysD fas fns K) : Df K mg "tupled" (topS 8) ["value"] :=
  df_of X G (S.fact 8 rfl) (S.def_ 8 (d := dfn "tupled" 8) rfl) fun _ _ _ _ _ _ us hl => match us, hl with | [_], _ => rfl
theorem df_are_numbers (X : K.In h) (G : h.Ns mainGlobals mg) (S : He.SaysD fas fns K) : Df K mg "are_numbers" (topS 10) ["thing"] :=
  df_of X G (S.fact 9 rfl) (S.def_ 9 (d := dfn "are_numbers" 10) rfl) fun _ _ _ _ _ _ us hl => match us, hl with | [_], _ => rfl
theorem df_is_shape (X : K.In h) (G : h.Ns mainGlobals mg) (S : He.SaysD fas fns K) : Df K mg "is_shape" (topS 13) ["thing"] :=
  df_of X G (S.fact 10 rfl) (S.def_ 10 (d := dfn "is_shape" 13) rfl) fun _ _ _ _ _ _ us hl => match us, hl with | [_], _ => rfl
theorem df_is_stand (X : K.In h) (G : h.Ns mainGlobals mg) (S : He.SaysD fas fns K) : Df K mg "is_stand" (topS 15) ["thing"] :=
  df_of X G (S.fact 11 rfl) (S.def_ 11 (d := dfn "is_stand" 15) rfl) fun _ _ _ _ _ _ us hl => match us, hl with | [_], _ => rfl
theorem df_sure_stand (X : K.In h) (G : h.Ns mainGlobals mg) (S : He.SaysD fas fns K) : Df K mg "sure_stand" (topS 16) ["stand"] :=
  df_of X G (S.fact 12 rfl) (S.def_ 12 (d := dfn "sure_stand" 16) rfl) fun _ _ _ _ _ _ us hl => match us, hl with | [_], _ => rfl
theorem df_is_move (X : K.In h) (G : h.Ns mainGlobals mg) (S : He.SaysD fas fns K) : Df K mg "is_move" (topS 17) ["thing"] :=
  df_of X G (S.fact 13 rfl) (S.def_ 13 (d := dfn "is_move" 17) rfl) fun _ _ _ _ _ _ us hl => match us, hl with | [_], _ => rfl
theorem df_is_row_in (X : K.In h) (G : h.Ns mainGlobals mg) (S : He.SaysD fas fns K) : Df K mg "is_row_in" (topS 24) ["thing"] :=
  df_of X G (S.fact 14 rfl) (S.def_ 14 (d := dfn "is_row_in" 24) rfl) fun _ _ _ _ _ _ us hl => match us, hl with | [_], _ => rfl
theorem df_behind_in (X : K.In h) (G : h.Ns mainGlobals mg) (S : He.SaysD fas fns K) : Df K mg "behind_in" (topS 25) ["stand", "row"] :=
  df_of X G (S.fact 15 rfl) (S.def_ 15 (d := dfn "behind_in" 25) rfl) fun _ _ _ _ _ _ us hl => match us, hl with | [_, _], _ => rfl
theorem df_both_stands (X : K.In h) (G : h.Ns mainGlobals mg) (S : He.SaysD fas fns K) : Df K mg "both_stands" (topS 29) ["stand", "goal"] :=
  df_of X G (S.fact 16 rfl) (S.def_ 16 (d := dfn "both_stands" 29) rfl) fun _ _ _ _ _ _ us hl => match us, hl with | [_, _], _ => rfl
theorem df_twofold_at (X : K.In h) (G : h.Ns mainGlobals mg) (S : He.SaysD fas fns K) : Df K mg "twofold_at" (topS 30) ["stand", "goal", "side"] :=
  df_of X G (S.fact 17 rfl) (S.def_ 17 (d := dfn "twofold_at" 30) rfl) fun _ _ _ _ _ _ us hl => match us, hl with | [_, _, _], _ => rfl
theorem df_has_slants (X : K.In h) (G : h.Ns mainGlobals mg) (S : He.SaysD fas fns K) : Df K mg "has_slants" (topS 31) ["stand", "goal"] :=
  df_of X G (S.fact 18 rfl) (S.def_ 18 (d := dfn "has_slants" 31) rfl) fun _ _ _ _ _ _ us hl => match us, hl with | [_, _], _ => rfl
theorem df_slants_in (X : K.In h) (G : h.Ns mainGlobals mg) (S : He.SaysD fas fns K) : Df K mg "slants_in" (topS 32) ["stand", "goal"] :=
  df_of X G (S.fact 19 rfl) (S.def_ 19 (d := dfn "slants_in" 32) rfl) fun _ _ _ _ _ _ us hl => match us, hl with | [_, _], _ => rfl
theorem df_are_paired (X : K.In h) (G : h.Ns mainGlobals mg) (S : He.SaysD fas fns K) : Df K mg "are_paired" (topS 33) ["slants"] :=
  df_of X G (S.fact 20 rfl) (S.def_ 20 (d := dfn "are_paired" 33) rfl) fun _ _ _ _ _ _ us hl => match us, hl with | [_], _ => rfl
theorem df_stand_slanted (X : K.In h) (G : h.Ns mainGlobals mg) (S : He.SaysD fas fns K) : Df K mg "stand_slanted" (topS 34) ["stand", "slants"] :=
  df_of X G (S.fact 21 rfl) (S.def_ 21 (d := dfn "stand_slanted" 34) rfl) fun _ _ _ _ _ _ us hl => match us, hl with | [_, _], _ => rfl
theorem df_bar_in (X : K.In h) (G : h.Ns mainGlobals mg) (S : He.SaysD fas fns K) : Df K mg "bar_in" (topS 35) ["stand", "goal"] :=
  df_of X G (S.fact 22 rfl) (S.def_ 22 (d := dfn "bar_in" 35) rfl) fun _ _ _ _ _ _ us hl => match us, hl with | [_, _], _ => rfl
theorem df_can_turn_to (X : K.In h) (G : h.Ns mainGlobals mg) (S : He.SaysD fas fns K) : Df K mg "can_turn_to" (topS 36) ["stand", "goal"] :=
  df_of X G (S.fact 23 rfl) (S.def_ 23 (d := dfn "can_turn_to" 36) rfl) fun _ _ _ _ _ _ us hl => match us, hl with | [_, _], _ => rfl
theorem df_east_north (X : K.In h) (G : h.Ns mainGlobals mg) (S : He.SaysD fas fns K) : Df K mg "east_north" (topS 38) ["corner"] :=
  df_of X G (S.fact 24 rfl) (S.def_ 24 (d := dfn "east_north" 38) rfl) fun _ _ _ _ _ _ us hl => match us, hl with | [_], _ => rfl
theorem df_corner_at (X : K.In h) (G : h.Ns mainGlobals mg) (S : He.SaysD fas fns K) : Df K mg "corner_at" (topS 39) ["east", "north"] :=
  df_of X G (S.fact 25 rfl) (S.def_ 25 (d := dfn "corner_at" 39) rfl) fun _ _ _ _ _ _ us hl => match us, hl with | [_, _], _ => rfl
theorem df_turn_by (X : K.In h) (G : h.Ns mainGlobals mg) (S : He.SaysD fas fns K) : Df K mg "turn_by" (topS 40) ["number", "one", "other"] :=
  df_of X G (S.fact 26 rfl) (S.def_ 26 (d := dfn "turn_by" 40) rfl) fun _ _ _ _ _ _ us hl => match us, hl with | [_, _, _], _ => rfl
theorem df_turns_by_slants (X : K.In h) (G : h.Ns mainGlobals mg) (S : He.SaysD fas fns K) : Df K mg "turns_by_slants" (topS 41) ["slants"] :=
  df_of X G (S.fact 27 rfl) (S.def_ 27 (d := dfn "turns_by_slants" 41) rfl) fun _ _ _ _ _ _ us hl => match us, hl with | [_], _ => rfl
theorem df_fewest_turned_in (X : K.In h) (G : h.Ns mainGlobals mg) (S : He.SaysD fas fns K) : Df K mg "fewest_turned_in" (topS 43) ["stand", "goal"] :=
  df_of X G (S.fact 28 rfl) (S.def_ 28 (d := dfn "fewest_turned_in" 43) rfl) fun _ _ _ _ _ _ us hl => match us, hl with | [_, _], _ => rfl
theorem df_ones_for (X : K.In h) (G : h.Ns mainGlobals mg) (S : He.SaysD fas fns K) : Df K mg "ones_for" (topS 47) ["number", "many"] :=
  df_of X G (S.fact 29 rfl) (S.def_ 29 (d := dfn "ones_for" 47) rfl) fun _ _ _ _ _ _ us hl => match us, hl with | [_, _], _ => rfl
theorem df_turns_told (X : K.In h) (G : h.Ns mainGlobals mg) (S : He.SaysD fas fns K) : Df K mg "turns_told" (topS 48) ["slants"] :=
  df_of X G (S.fact 30 rfl) (S.def_ 30 (d := dfn "turns_told" 48) rfl) fun _ _ _ _ _ _ us hl => match us, hl with | [_], _ => rfl
theorem df_turn_plan_in (X : K.In h) (G : h.Ns mainGlobals mg) (S : He.SaysD fas fns K) : Df K mg "turn_plan_in" (topS 49) ["stand", "goal"] :=
  df_of X G (S.fact 31 rfl) (S.def_ 31 (d := dfn "turn_plan_in" 49) rfl) fun _ _ _ _ _ _ us hl => match us, hl with | [_, _], _ => rfl
theorem df_are_turns (X : K.In h) (G : h.Ns mainGlobals mg) (S : He.SaysD fas fns K) : Df K mg "are_turns" (topS 51) ["row"] :=
  df_of X G (S.fact 32 rfl) (S.def_ 32 (d := dfn "are_turns" 51) rfl) fun _ _ _ _ _ _ us hl => match us, hl with | [_], _ => rfl
theorem df_is_turn_plan_in (X : K.In h) (G : h.Ns mainGlobals mg) (S : He.SaysD fas fns K) : Df K mg "is_turn_plan_in" (topS 52) ["stand", "goal", "thing"] :=
  df_of X G (S.fact 33 rfl) (S.def_ 33 (d := dfn "is_turn_plan_in" 52) rfl) fun _ _ _ _ _ _ us hl => match us, hl with | [_, _, _], _ => rfl
theorem df_is_turn_plan (X : K.In h) (G : h.Ns mainGlobals mg) (S : He.SaysD fas fns K) : Df K mg "is_turn_plan" (topS 53) ["stand", "goal", "thing"] :=
  df_of X G (S.fact 34 rfl) (S.def_ 34 (d := dfn "is_turn_plan" 53) rfl) fun _ _ _ _ _ _ us hl => match us, hl with | [_, _, _], _ => rfl
theorem df__law_lists (X : K.In h) (G : h.Ns mainGlobals mg) (S : He.SaysD fas fns K) : Df K mg "_law_lists" (topS 59) ["_law_matter"] :=
  df_of X G (S.fact 35 rfl) (S.def_ 35 (d := dfn "_law_lists" 59) rfl) fun _ _ _ _ _ _ us hl => match us, hl with | [_], _ => rfl
theorem df__law_same (X : K.In h) (G : h.Ns mainGlobals mg) (S : He.SaysD fas fns K) : Df K mg "_law_same" (topS 60) ["_law_got", "_law_due"] :=
  df_of X G (S.fact 36 rfl) (S.def_ 36 (d := dfn "_law_same" 60) rfl) fun _ _ _ _ _ _ us hl => match us, hl with | [_, _], _ => rfl
theorem df__law_home (X : K.In h) (G : h.Ns mainGlobals mg) (S : He.SaysD fas fns K) : Df K mg "_law_home" (topS 61) [] :=
  df_of X G (S.fact 37 rfl) (S.def_ 37 (d := dfn "_law_home" 61) rfl) fun _ _ _ _ _ _ us hl => match us, hl with | [], _ => rfl
theorem df__law_poses (X : K.In h) (G : h.Ns mainGlobals mg) (S : He.SaysD fas fns K) : Df K mg "_law_poses" (topS 62) [] :=
  df_of X G (S.fact 38 rfl) (S.def_ 38 (d := dfn "_law_poses" 62) rfl) fun _ _ _ _ _ _ us hl => match us, hl with | [], _ => rfl
theorem df__law_plus (X : K.In h) (G : h.Ns mainGlobals mg) (S : He.SaysD fas fns K) : Df K mg "_law_plus" (topS 63) ["_law_row_so", "_law_k", "_law_by_so"] :=
  df_of X G (S.fact 39 rfl) (S.def_ 39 (d := dfn "_law_plus" 63) rfl) fun _ _ _ _ _ _ us hl => match us, hl with | [_, _, _], _ => rfl
theorem df__law_flip (X : K.In h) (G : h.Ns mainGlobals mg) (S : He.SaysD fas fns K) : Df K mg "_law_flip" (topS 64) ["_law_row_so", "_law_k"] :=
  df_of X G (S.fact 40 rfl) (S.def_ 40 (d := dfn "_law_flip" 64) rfl) fun _ _ _ _ _ _ us hl => match us, hl with | [_, _], _ => rfl
theorem df__law_tip (X : K.In h) (G : h.Ns mainGlobals mg) (S : He.SaysD fas fns K) : Df K mg "_law_tip" (topS 65) ["_law_spot", "_law_way_so"] :=
  df_of X G (S.fact 41 rfl) (S.def_ 41 (d := dfn "_law_tip" 65) rfl) fun _ _ _ _ _ _ us hl => match us, hl with | [_, _], _ => rfl
theorem df__law_turn (X : K.In h) (G : h.Ns mainGlobals mg) (S : He.SaysD fas fns K) : Df K mg "_law_turn" (topS 66) ["_law_spot", "_law_corner_so", "_law_hand_so"] :=
  df_of X G (S.fact 42 rfl) (S.def_ 42 (d := dfn "_law_turn" 66) rfl) fun _ _ _ _ _ _ us hl => match us, hl with | [_, _, _], _ => rfl
theorem df__law_step (X : K.In h) (G : h.Ns mainGlobals mg) (S : He.SaysD fas fns K) : Df K mg "_law_step" (topS 67) ["_law_spot", "_law_step_here"] :=
  df_of X G (S.fact 43 rfl) (S.def_ 43 (d := dfn "_law_step" 67) rfl) fun _ _ _ _ _ _ us hl => match us, hl with | [_, _], _ => rfl
theorem df__law_behind (X : K.In h) (G : h.Ns mainGlobals mg) (S : He.SaysD fas fns K) : Df K mg "_law_behind" (topS 68) ["_law_spot", "_law_walk_here"] :=
  df_of X G (S.fact 44 rfl) (S.def_ 44 (d := dfn "_law_behind" 68) rfl) fun _ _ _ _ _ _ us hl => match us, hl with | [_, _], _ => rfl
theorem df__law_tips (X : K.In h) (G : h.Ns mainGlobals mg) (S : He.SaysD fas fns K) : Df K mg "_law_tips" (topS 69) [] :=
  df_of X G (S.fact 45 rfl) (S.def_ 45 (d := dfn "_law_tips" 69) rfl) fun _ _ _ _ _ _ us hl => match us, hl with | [], _ => rfl
theorem df__law_turns (X : K.In h) (G : h.Ns mainGlobals mg) (S : He.SaysD fas fns K) : Df K mg "_law_turns" (topS 70) [] :=
  df_of X G (S.fact 46 rfl) (S.def_ 46 (d := dfn "_law_turns" 70) rfl) fun _ _ _ _ _ _ us hl => match us, hl with | [], _ => rfl
theorem df__law_lean (X : K.In h) (G : h.Ns mainGlobals mg) (S : He.SaysD fas fns K) : Df K mg "_law_lean" (topS 72) ["_law_one", "_law_two"] :=
  df_of X G (S.fact 47 rfl) (S.def_ 47 (d := dfn "_law_lean" 72) rfl) fun _ _ _ _ _ _ us hl => match us, hl with | [_, _], _ => rfl
theorem df__law_word (X : K.In h) (G : h.Ns mainGlobals mg) (S : He.SaysD fas fns K) : Df K mg "_law_word" (topS 77) ["_law_one", "_law_two"] :=
  df_of X G (S.fact 48 rfl) (S.def_ 48 (d := dfn "_law_word" 77) rfl) fun _ _ _ _ _ _ us hl => match us, hl with | [_, _], _ => rfl
theorem df_sure_turned (X : K.In h) (G : h.Ns mainGlobals mg) (S : He.SaysD fas fns K) : Df K mg "sure_turned" (topS 42) ["stand", "goal"] :=
  df_of X G (S.fact 49 rfl) (S.def_ 49 (d := dfn "sure_turned" 42) rfl) fun _ _ _ _ _ _ us hl => match us, hl with | [_, _], _ => rfl
theorem df_fewest_turns (X : K.In h) (G : h.Ns mainGlobals mg) (S : He.SaysD fas fns K) : Df K mg "fewest_turns" (topS 44) ["stand", "goal"] :=
  df_of X G (S.fact 50 rfl) (S.def_ 50 (d := dfn "fewest_turns" 44) rfl) fun _ _ _ _ _ _ us hl => match us, hl with | [_, _], _ => rfl
theorem df_first_turns_in (X : K.In h) (G : h.Ns mainGlobals mg) (S : He.SaysD fas fns K) : Df K mg "first_turns_in" (topS 45) ["stand", "goal"] :=
  df_of X G (S.fact 51 rfl) (S.def_ 51 (d := dfn "first_turns_in" 45) rfl) fun _ _ _ _ _ _ us hl => match us, hl with | [_, _], _ => rfl
theorem df_turn_plan (X : K.In h) (G : h.Ns mainGlobals mg) (S : He.SaysD fas fns K) : Df K mg "turn_plan" (topS 50) ["stand", "goal"] :=
  df_of X G (S.fact 52 rfl) (S.def_ 52 (d := dfn "turn_plan" 50) rfl) fun _ _ _ _ _ _ us hl => match us, hl with | [_, _], _ => rfl
theorem df_why_not_turned (X : K.In h) (G : h.Ns mainGlobals mg) (S : He.SaysD fas fns K) : Df K mg "why_not_turned" (topS 37) ["stand", "goal"] :=
  df_of X G (S.fact 53 rfl) (S.def_ 53 (d := dfn "why_not_turned" 37) rfl) fun _ _ _ _ _ _ us hl => match us, hl with | [_, _], _ => rfl
theorem df__law_levels (X : K.In h) (G : h.Ns mainGlobals mg) (S : He.SaysD fas fns K) : Df K mg "_law_levels" (topS 73) ["_law_first_so", "_law_steps_so", "_law_most_so"] :=
  df_of X G (S.fact 54 rfl) (S.def_ 54 (d := dfn "_law_levels" 73) rfl) fun _ _ _ _ _ _ us hl => match us, hl with | [_, _, _], _ => rfl
theorem df__law_meet (X : K.In h) (G : h.Ns mainGlobals mg) (S : He.SaysD fas fns K) : Df K mg "_law_meet" (topS 74) ["_law_near_so", "_law_far_so"] :=
  df_of X G (S.fact 55 rfl) (S.def_ 55 (d := dfn "_law_meet" 74) rfl) fun _ _ _ _ _ _ us hl => match us, hl with | [_, _], _ => rfl
theorem df_first_turns (X : K.In h) (G : h.Ns mainGlobals mg) (S : He.SaysD fas fns K) : Df K mg "first_turns" (topS 46) ["stand", "goal"] :=
  df_of X G (S.fact 56 rfl) (S.def_ 56 (d := dfn "first_turns" 46) rfl) fun _ _ _ _ _ _ us hl => match us, hl with | [_, _], _ => rfl
theorem df_set_of (X : K.In h) (G : h.Ns mainGlobals mg) (S : He.SaysD fas fns K) : Df K mg "set_of" (topS 9) ["row"] :=
  df_of X G (S.fact 57 rfl) (S.def_ 57 (d := dfn "set_of" 9) rfl) fun _ _ _ _ _ _ us hl => match us, hl with | [_], _ => rfl
theorem df__law_heard (X : K.In h) (G : h.Ns mainGlobals mg) (S : He.SaysD fas fns K) : Df K mg "_law_heard" (topS 78) ["_law_door", "_law_one", "_law_two"] :=
  df_of X G (S.fact 58 rfl) (S.def_ 58 (d := dfn "_law_heard" 78) rfl) fun _ _ _ _ _ _ us hl => match us, hl with | [_, _, _], _ => rfl
theorem df__law_by_hand_right (X : K.In h) (G : h.Ns mainGlobals mg) (S : He.SaysD fas fns K) : Df K mg "_law_by_hand_right" (topS 79) [] :=
  df_of X G (S.fact 59 rfl) (S.def_ 59 (d := dfn "_law_by_hand_right" 79) rfl) fun _ _ _ _ _ _ us hl => match us, hl with | [], _ => rfl
theorem df__law_plan_right (X : K.In h) (G : h.Ns mainGlobals mg) (S : He.SaysD fas fns K) : Df K mg "_law_plan_right" (topS 80) ["_law_one", "_law_two", "_law_few_so"] :=
  df_of X G (S.fact 60 rfl) (S.def_ 60 (d := dfn "_law_plan_right" 80) rfl) fun _ _ _ _ _ _ us hl => match us, hl with | [_, _, _], _ => rfl
theorem df__law_take (X : K.In h) (G : h.Ns mainGlobals mg) (S : He.SaysD fas fns K) : Df K mg "_law_take" (topS 56) ["_law_tin", "_law_below_so"] :=
  df_of X G (S.fact 61 rfl) (S.def_ 61 (d := dfn "_law_take" 56) rfl) fun _ _ _ _ _ _ us hl => match us, hl with | [_, _], _ => rfl
theorem df__law_of (X : K.In h) (G : h.Ns mainGlobals mg) (S : He.SaysD fas fns K) : Df K mg "_law_of" (topS 58) ["_law_tin", "_law_goods_so"] :=
  df_of X G (S.fact 62 rfl) (S.def_ 62 (d := dfn "_law_of" 58) rfl) fun _ _ _ _ _ _ us hl => match us, hl with | [_, _], _ => rfl
theorem df__law_walk (X : K.In h) (G : h.Ns mainGlobals mg) (S : He.SaysD fas fns K) : Df K mg "_law_walk" (topS 71) ["_law_tin", "_law_many_so", "_law_steps_so"] :=
  df_of X G (S.fact 63 rfl) (S.def_ 63 (d := dfn "_law_walk" 71) rfl) fun _ _ _ _ _ _ us hl => match us, hl with | [_, _, _], _ => rfl
theorem df__law_somewhere (X : K.In h) (G : h.Ns mainGlobals mg) (S : He.SaysD fas fns K) : Df K mg "_law_somewhere" (topS 75) ["_law_tin"] :=
  df_of X G (S.fact 64 rfl) (S.def_ 64 (d := dfn "_law_somewhere" 75) rfl) fun _ _ _ _ _ _ us hl => match us, hl with | [_], _ => rfl
theorem df__law_bent_spot (X : K.In h) (G : h.Ns mainGlobals mg) (S : He.SaysD fas fns K) : Df K mg "_law_bent_spot" (topS 76) ["_law_tin", "_law_spot"] :=
  df_of X G (S.fact 65 rfl) (S.def_ 65 (d := dfn "_law_bent_spot" 76) rfl) fun _ _ _ _ _ _ us hl => match us, hl with | [_, _], _ => rfl
theorem df__law_right (X : K.In h) (G : h.Ns mainGlobals mg) (S : He.SaysD fas fns K) : Df K mg "_law_right" (topS 81) ["_law_tin"] :=
  df_of X G (S.fact 66 rfl) (S.def_ 66 (d := dfn "_law_right" 81) rfl) fun _ _ _ _ _ _ us hl => match us, hl with | [_], _ => rfl
theorem df__law_box (X : K.In h) (G : h.Ns mainGlobals mg) (S : He.SaysD fas fns K) : Df K mg "_law_box" (topS 55) ["_law_script", "_law_k"] :=
  df_of X G (S.fact 67 rfl) (S.def_ 67 (d := dfn "_law_box" 55) rfl) fun _ _ _ _ _ _ us hl => match us, hl with | [_, _], _ => rfl
theorem df__law_cells (X : K.In h) (G : h.Ns mainGlobals mg) (S : He.SaysD fas fns K) : Df K mg "_law_cells" (topS 57) ["_law_script", "_law_most_so"] :=
  df_of X G (S.fact 68 rfl) (S.def_ 68 (d := dfn "_law_cells" 57) rfl) fun _ _ _ _ _ _ us hl => match us, hl with | [_, _], _ => rfl
theorem law_fun (S : He.SaysD fas fns K) : ∃ fd, Fun K "law" "law" (topS 82) (He.ga K "law") fd ∧ ∀ (s : Shared) (u : Value), BindsTo s fd ⟨[u], []⟩ [("_law_script", u)] := by
  obtain ⟨fd, D⟩ := S.def_ 69 (d := dfn "law" 82) rfl
  exact ⟨fd, He5.fun_of D, fun s u => D.bindsA (ps := ["_law_script"]) (fun _ _ _ _ _ _ us hl => match us, hl with | [_], _ => rfl) s [u] rfl⟩
theorem bt_of (X : K.In h) (G : h.Ns mainGlobals mg) (S : He.SaysD fas fns K) : Bt mg :=
  ⟨He.free_ok X G (S.fact 71 rfl), He.free_ok X G (S.fact 72 rfl), He.free_ok X G (S.fact 73 rfl), He.free_ok X G (S.fact 74 rfl), He.free_ok X G (S.fact 75 rfl), He.free_ok X G (S.fact 76 rfl), He.free_ok X G (S.fact 77 rfl), He.free_ok X G (S.fact 78 rfl), He.free_ok X G (S.fact 79 rfl), He.free_ok X G (S.fact 80 rfl), He.free_ok X G (S.fact 81 rfl), He.free_ok X G (S.fact 82 rfl), He.free_ok X G (S.fact 83 rfl), He.free_ok X G (S.fact 84 rfl), He.free_ok X G (S.fact 85 rfl), He.free_ok X G (S.fact 86 rfl), He.free_ok X G (S.fact 87 rfl)⟩
theorem cn_of (X : K.In h) (G : h.Ns mainGlobals mg) (S : He.SaysD fas fns K) (e : exB K = true) : Cn K mg (He.ga K "CanNot") := cnB_ok (He.glo_ok X G (S.fact 70 rfl)) (Bool.and_eq_true_iff.mp e).1
theorem gc_of (X : K.In h) (G : h.Ns mainGlobals mg) (e : exB K = true) : Gc K mg "HANDS" handsD ∧ Gc K mg "MOST_TURNED" (.int 2000) ∧ Gc K mg "RING" ringD := by
  obtain ⟨_, e⟩ := Bool.and_eq_true_iff.mp e
  obtain ⟨e1, e⟩ := Bool.and_eq_true_iff.mp e
  obtain ⟨e2, e3⟩ := Bool.and_eq_true_iff.mp e
  exact ⟨gcB_ok X G e1, gcB_ok X G e2, gcB_ok X G e3⟩
theorem law_facts {P : Program} {w : World} {f : Addr} (X : K.In h) (G : h.Ns mainGlobals mg) (S : He.SaysD fas fns K) (e : exB K = true) (hf : mg "law" = some (.ref f)) :
    ∃ fd : FuncData, (∀ (s : Shared) (u : Value), BindsTo s fd ⟨[u], []⟩ [("_law_script", u)]) ∧ ∀ base : Heap, K.In base → base.Ns mainGlobals mg → FnOk P w K mg base CX0 15 f fd ["_law_script"] (spLaw K) := by
  obtain ⟨fd, F, hb⟩ := law_fun S
  obtain ⟨gH, gM, gR⟩ := gc_of X G e
  have z := hf.symm.trans (He.glo_ok X G (S.fact 69 rfl))
  cases z
  refine ⟨fd, hb, fun base _ _ => ?_⟩
  exact all_join (bt_of X G S) (cn_of X G S e) gH gM gR (df_is_number X G S) (df_is_within X G S) (df_is_long X G S) (df_more_at X G S) (df_flipped X G S) (df_tipped_in X G S) (df_turned_in X G S) (df_moved_in X G S) (df_tupled X G S) (df_are_numbers X G S) (df_is_shape X G S) (df_is_stand X G S) (df_sure_stand X G S) (df_is_move X G S) (df_is_row_in X G S) (df_behind_in X G S) (df_both_stands X G S) (df_twofold_at X G S) (df_has_slants X G S) (df_slants_in X G S) (df_are_paired X G S) (df_stand_slanted X G S) (df_bar_in X G S) (df_can_turn_to X G S) (df_east_north X G S) (df_corner_at X G S) (df_turn_by X G S) (df_turns_by_slants X G S) (df_fewest_turned_in X G S) (df_ones_for X G S) (df_turns_told X G S) (df_turn_plan_in X G S) (df_are_turns X G S) (df_is_turn_plan_in X G S) (df_is_turn_plan X G S) (df__law_lists X G S) (df__law_same X G S) (df__law_home X G S) (df__law_poses X G S) (df__law_plus X G S) (df__law_flip X G S) (df__law_tip X G S) (df__law_turn X G S) (df__law_step X G S) (df__law_behind X G S) (df__law_tips X G S) (df__law_turns X G S) (df__law_lean X G S) (df__law_word X G S) (df_sure_turned X G S) (df_fewest_turns X G S) (df_first_turns_in X G S) (df_turn_plan X G S) (df_why_not_turned X G S) (df__law_levels X G S) (df__law_meet X G S) (df_first_turns X G S) (df_set_of X G S) (df__law_heard X G S) (df__law_by_hand_right X G S) (df__law_plan_right X G S) (df__law_take X G S) (df__law_of X G S) (df__law_walk X G S) (df__law_somewhere X G S) (df__law_bent_spot X G S) (df__law_right X G S) (df__law_box X G S) (df__law_cells X G S) F
end
end Mv

/-! part F3 -/
open PySem PySem.W PySem.Calls PyProof.Rows
set_option maxHeartbeats 0 in
theorem PySem.Challenge.cw_movedchest_k25_whole_fewest_turns_holds : PySem.Challenge.rw_movedchest_k25_whole_fewest_turns.Holds := by
  w_on; o_law
  refine HandSHeadRun.head_any (r := Mv.R) (q := Mv.qv) (H := Mv.hookM) (ob := Mv.ob) (M := Mv.stepsM) (loose := Mv.loose) (d := HandSHeadRun.topDef Mv.R.prog 82) (kwd := []) Mv.ob_eq
    (by kernel_rfl) (fun s => by kernel_rfl) Mv.run_head (by kernel_rfl) (by kernel_rfl) (by kernel_rfl) (by rfl) (by first | assumption | decide +kernel) (by decide +kernel) ⟨rfl, rfl, rfl, rfl, rfl, by decide +kernel⟩ ?hw ?hc
  case hw => w_witness2
  case hc =>
    refine L2.walk_ofE (l := PySem.Challenge.rw_movedchest_k25_whole_fewest_turns) (n := 63) (k := 15) (x := "_law_script") (CX := L2.CX0) rfl (by decide) (by kernel_rfl) ⟨rfl, by decide, by decide⟩ ?F (fun _ _ _ _ z => z)
    intro w mg fa h Y G hmg0
    obtain ⟨K, KX, c, e⟩ := Y
    have hmg : mg ("law" : PySem.Str) = some (.ref fa) := by
      have en : (HandSHeadRun.topDef Mv.R.prog 82).name = ("law" : PySem.Str) := by kernel_rfl
      rw [← en]
      exact hmg0
    obtain ⟨fd, hb, hF⟩ := Mv.law_facts (P := (PySem.Challenge.rw_movedchest_k25_whole_fewest_turns).prog) (w := w) KX G c e hmg
    exact ⟨K, fd, Mv.spLaw K, KX, hb, fun H a ns hl _ hS => ⟨a, ns, rfl, hS, hl, fun _ => rfl⟩, hF⟩
