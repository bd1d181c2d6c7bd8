import PyProof.Rows.All
import Wide.All
import OpenK.AllK
import Wide.FinOn
import HandS.ForMost
import HandS.ForExc
import HandS.Wide
import HandS.TupAny
import HandS.TupLe
import HandS.IsInst
import HandS.Star
import PyProof.ReprRoads
import HandS.Walk
import HandS.ExcInit
import HandS.ExcField
import HandS.Iter
import KE.GoesMore
import HandS.SortOrd
import HandS.SortRule
import HandS.SortInts
import HandS.Comp
import HandS.Deep
import HandS.Dict
import HandS.Style
import HandS.List
import HandS.Defaults
import HandS.Head0
import HandS.Head1
import HandS.Head2
import HandS.HeadEnd
import HandS.HeadHook1
import HandS.HeadHook2
import PyProof.ReprBulk
import PySem.Challenge.RW_windfigure_k73_whole_words_of_weathers
set_option Elab.async false
set_option linter.all false
set_option maxRecDepth 100000
set_option maxHeartbeats 0
/-! W1: data over the abstract heap, the state of a walk by data, expressions by what they compute. -/
namespace Wf
open PySem L2

abbrev D := PyData
abbrev Fz := Addr → Prop

/-! ### a value bears a datum; lists only where they are never written -/
/-- a list of the module's own -/
def KL (K : PySem.W.Frag) (a : Addr) (xs : List V) : Prop := ∃ (o : Obj) (its : Array Value) (n : Nat), K.lookup a = some o ∧ o.cls = .type "list" ∧ o.dict = none ∧ o.data = .seq its n ∧ its.size ≤ sizeLine ∧ Vals xs its.toList
mutual
inductive Rp (K : PySem.W.Frag) (H : Hp) (F : Fz) : V → D → Prop
  | non : Rp K H F .non .none
  | bl (b : Bool) : Rp K H F (.bl b) (.bool b)
  | int (i : Int) : Rp K H F (.int i) (.int i)
  | str (x : Str) : Rp K H F (.str x) (.str x)
  | tup {a : Addr} {xs : List V} {ds : List D} : SqT K H a xs → RpA K H F xs ds → Rp K H F (.ref a) (.tuple ds)
  | lst {a : Addr} {xs : List V} {ds : List D} : F a → H a = some (.lst xs) → RpA K H F xs ds → Rp K H F (.ref a) (.list ds)
  | scr {a : Addr} {o : Obj} {xs : List V} {ds : List D} : F a → H a = some (.frz o (.lst xs)) → RpA K H F xs ds → Rp K H F (.ref a) (.dict [(.none, .list ds)])
  | scrK {a : Addr} {xs : List V} {ds : List D} : KL K a xs → RpA K H F xs ds → Rp K H F (.ref a) (.dict [(.none, .list ds)])
  | dic {a : Addr} : F a → H a = some (.dK []) → Rp K H F (.ref a) (.dict [])
inductive RpA (K : PySem.W.Frag) (H : Hp) (F : Fz) : List V → List D → Prop
  | nil : RpA K H F [] []
  | cons {v : V} {vs : List V} {d : D} {ds : List D} : Rp K H F v d → RpA K H F vs ds → RpA K H F (v :: vs) (d :: ds)
end

/-- all that stood stands, but the one list that may be written -/
def Mon (mg : Option Addr) (H H' : Hp) : Prop := ∀ a o, H a = some o → mg ≠ some a → H' a = some o
theorem Mon.refl {mg : Option Addr} (H : Hp) : Mon mg H H := fun _ _ h _ => h
theorem Mon.trans {mg : Option Addr} {H H1 H2 : Hp} (a : Mon mg H H1) (b : Mon mg H1 H2) : Mon mg H H2 := fun c o h n => b c o (a c o h n) n

/-- what a datum leans on stands -/
structure Ext (H : Hp) (F : Fz) (H' : Hp) (F' : Fz) : Prop where
  sub : ∀ a, F a → F' a
  keep : ∀ a o, F a → H a = some o → H' a = some o
  tup : ∀ a xs, Rd H a (.tup xs) → Rd H' a (.tup xs)

theorem seqT_ext {K : PySem.W.Frag} {H H' : Hp} {F F' : Fz} {a : Addr} {xs : List V} (e : Ext H F H' F') (h : SqT K H a xs) : SqT K H' a xs := by
  rcases h with h | h
  · exact .inl (e.tup a xs h)
  · exact .inr h

mutual
theorem Rp.ext {K : PySem.W.Frag} {H H' : Hp} {F F' : Fz} (e : Ext H F H' F') : ∀ (d : D) (v : V), Rp K H F v d → Rp K H' F' v d
  | .none, _, h => by cases h; exact .non
  | .bool b, _, h => by cases h; exact .bl b
  | .int i, _, h => by cases h; exact .int i
  | .str x, _, h => by cases h; exact .str x
  | .tuple ds, _, h => by
    cases h with
    | tup hs ha => exact .tup (seqT_ext e hs) (RpA.ext e ds _ ha)
  | .list ds, _, h => by
    cases h with
    | lst hf hs ha => exact .lst (e.sub _ hf) (e.keep _ _ hf hs) (RpA.ext e ds _ ha)
  | .dict [], _, h => by
    cases h with
    | dic hf ha => exact .dic (e.sub _ hf) (e.keep _ _ hf ha)
  | .dict [(.none, .list ds)], _, h => by
    cases h with
    | scr hf hs ha => exact .scr (e.sub _ hf) (e.keep _ _ hf hs) (RpA.ext e ds _ ha)
    | scrK hk ha => exact .scrK hk (RpA.ext e ds _ ha)
  | .dict (_ :: _ :: _), _, h => by cases h
  | .dict [(.bool _, _)], _, h => by cases h
  | .dict [(.int _, _)], _, h => by cases h
  | .dict [(.str _, _)], _, h => by cases h
  | .dict [(.list _, _)], _, h => by cases h
  | .dict [(.tuple _, _)], _, h => by cases h
  | .dict [(.dict _, _)], _, h => by cases h
  | .dict [(.none, .none)], _, h => by cases h
  | .dict [(.none, .bool _)], _, h => by cases h
  | .dict [(.none, .int _)], _, h => by cases h
  | .dict [(.none, .str _)], _, h => by cases h
  | .dict [(.none, .tuple _)], _, h => by cases h
  | .dict [(.none, .dict _)], _, h => by cases h
theorem RpA.ext {K : PySem.W.Frag} {H H' : Hp} {F F' : Fz} (e : Ext H F H' F') : ∀ (ds : List D) (vs : List V), RpA K H F vs ds → RpA K H' F' vs ds
  | [], _, h => by cases h; exact .nil
  | d :: ds, _, h => by
    cases h with
    | cons h1 h2 => exact .cons (Rp.ext e d _ h1) (RpA.ext e ds _ h2)
end

theorem RpA.length {K : PySem.W.Frag} {H : Hp} {F : Fz} : ∀ {vs : List V} {ds : List D}, RpA K H F vs ds → vs.length = ds.length
  | _, [], .nil => rfl
  | _, _ :: _, .cons _ t => by rw [List.length_cons, List.length_cons, RpA.length t]
theorem RpA.get {K : PySem.W.Frag} {H : Hp} {F : Fz} : ∀ {vs : List V} {ds : List D} {i : Nat} {d : D}, RpA K H F vs ds → ds[i]? = some d → ∃ v, vs[i]? = some v ∧ Rp K H F v d
  | _, [], _, _, .nil, e => by simp at e
  | _, _ :: _, 0, _, .cons r _, e => by
    simp at e; subst e; exact ⟨_, rfl, r⟩
  | _, _ :: _, i + 1, d, .cons _ t, e => by
    obtain ⟨v, h1, h2⟩ := RpA.get (i := i) (d := d) t (by simpa using e)
    exact ⟨v, by simpa using h1, h2⟩
theorem RpA.app {K : PySem.W.Frag} {H : Hp} {F : Fz} : ∀ {vs ws : List V} {ds es : List D}, RpA K H F vs ds → RpA K H F ws es → RpA K H F (vs ++ ws) (ds ++ es)
  | _, _, [], _, .nil, h => h
  | _, _, _ :: _, _, .cons r t, h => .cons r (RpA.app t h)
theorem RpA.take {K : PySem.W.Frag} {H : Hp} {F : Fz} : ∀ (n : Nat) {vs : List V} {ds : List D}, RpA K H F vs ds → RpA K H F (vs.take n) (ds.take n)
  | 0, _, _, _ => by simpa using RpA.nil
  | _ + 1, _, [], .nil => by simpa using RpA.nil
  | n + 1, _, _ :: _, .cons r t => by simpa using RpA.cons r (RpA.take n t)
theorem RpA.drop {K : PySem.W.Frag} {H : Hp} {F : Fz} : ∀ (n : Nat) {vs : List V} {ds : List D}, RpA K H F vs ds → RpA K H F (vs.drop n) (ds.drop n)
  | 0, _, _, h => by simpa using h
  | _ + 1, _, [], .nil => by simpa using RpA.nil
  | n + 1, _, _ :: _, .cons _ t => by simpa using RpA.drop n t
theorem RpA.set {K : PySem.W.Frag} {H : Hp} {F : Fz} {v : V} {d : D} (r : Rp K H F v d) : ∀ (i : Nat) {vs : List V} {ds : List D}, RpA K H F vs ds → RpA K H F (vs.set i v) (ds.set i d)
  | _, _, [], .nil => by simpa using RpA.nil
  | 0, _, _ :: _, .cons _ t => by simpa using RpA.cons r t
  | n + 1, _, _ :: _, .cons q t => by simpa using RpA.cons q (RpA.set r n t)

/-! ### no list and no dict within -/
mutual
def lf : D → Bool
  | .none => true
  | .bool _ => true
  | .int _ => true
  | .str _ => true
  | .tuple ds => lfA ds
  | .list _ => false
  | .dict _ => false
def lfA : List D → Bool
  | [] => true
  | d :: ds => lf d && lfA ds
end
mutual
theorem Rp.free {K : PySem.W.Frag} {H : Hp} {F F' : Fz} : ∀ (d : D) (v : V), lf d = true → Rp K H F v d → Rp K H F' v d
  | .none, _, _, h => by cases h; exact .non
  | .bool b, _, _, h => by cases h; exact .bl b
  | .int i, _, _, h => by cases h; exact .int i
  | .str x, _, _, h => by cases h; exact .str x
  | .tuple ds, _, l, h => by
    cases h with
    | tup hs ha => exact .tup hs (RpA.free ds _ (by simpa only [lf] using l) ha)
  | .list ds, _, l, _ => by simp only [lf] at l; cases l
  | .dict _, _, l, _ => by simp only [lf] at l; cases l
theorem RpA.free {K : PySem.W.Frag} {H : Hp} {F F' : Fz} : ∀ (ds : List D) (vs : List V), lfA ds = true → RpA K H F vs ds → RpA K H F' vs ds
  | [], _, _, h => by cases h; exact .nil
  | d :: ds, _, l, h => by
    simp only [lfA, Bool.and_eq_true] at l
    cases h with
    | cons h1 h2 => exact .cons (Rp.free d _ l.1 h1) (RpA.free ds _ l.2 h2)
end

/-! ### what a code gives -/
abbrev Mu := List D
/-- an answer, an exception (its class's name, its one field), or no word -/
inductive R (α : Type) where
  | ok (a : α) (mu : Mu)
  | exc (c : Str) (p : Option (Str × D)) (mu : Mu)
  | bad
namespace R
variable {α β : Type}
def bind (r : R α) (f : α → Mu → R β) : R β := match r with
  | .ok a mu => f a mu
  | .exc c p mu => .exc c p mu
  | .bad => .bad
def wp (r : R α) (Q : α → Mu → Prop) (E : Str → Option (Str × D) → Mu → Prop) : Prop := match r with
  | .ok a mu => Q a mu
  | .exc c p mu => E c p mu
  | .bad => False
theorem wp_bind {r : R α} {f : α → Mu → R β} {Q : β → Mu → Prop} {E : Str → Option (Str × D) → Mu → Prop} : (r.bind f).wp Q E ↔ r.wp (fun a mu => (f a mu).wp Q E) E := by
  cases r <;> exact Iff.rfl
theorem wp_mono {r : R α} {Q Q' : α → Mu → Prop} {E E' : Str → Option (Str × D) → Mu → Prop} (h : r.wp Q E) (hq : ∀ a mu, Q a mu → Q' a mu) (he : ∀ c p mu, E c p mu → E' c p mu) : r.wp Q' E' := by
  cases r with
  | ok a mu => exact hq a mu h
  | exc c p mu => exact he c p mu h
  | bad => exact h
end R

/-- a slot of a walk: nothing known, a datum, a list of the walk's own, the drawn list -/
inductive Sl where
  | no
  | val (d : D)
  | own (ds : List D)
  | mug
  /-- a caught exception: its class's name, its field; where it and its dict stand -/
  | exn (c : Str) (p : Option (Str × D)) (a : Addr) (dx : Option Addr)
abbrev Gm := List Sl
abbrev EM := Gm → Mu → R D
abbrev TM := Gm → Mu → R Bool
abbrev AM := Gm → Mu → R (List D)

def SlOk (K : PySem.W.Frag) (mg : Option Addr) (H : Hp) (F : Fz) : Sl → Option V → Prop
  | .no, _ => True
  | .val d, o => ∃ v, o = some v ∧ Rp K H F v d
  | .own ds, o => ∃ a vs, o = some (.ref a) ∧ H a = some (.lst vs) ∧ ¬ F a ∧ RpA K H F vs ds
  | .mug, o => ∃ a, mg = some a ∧ o = some (.ref a)
  | .exn _ p a dx, o => o = some (.ref a) ∧ match p with
    | none => True
    | some (f, d) => ∃ x v, dx = some x ∧ H x = some (.xd [(f, v)]) ∧ Rp K H F v d

/-- the drawn list as it stands -/
def MuOk (K : PySem.W.Frag) (mg : Option Addr) (H : Hp) (F : Fz) (mu : Mu) : Prop :=
  ∀ a, mg = some a → ∃ vs, H a = some (.lst vs) ∧ ¬ F a ∧ lfA mu = true ∧ RpA K H F vs mu

structure Rel (K : PySem.W.Frag) (H0 : Hp) (F0 : Fz) (mg : Option Addr) (g : Gm) (mu : Mu) (σ : St) (H : Hp) (F : Fz) : Prop where
  len : g.length = σ.length
  slot : ∀ (i : Nat) s o, g[i]? = some s → σ[i]? = some o → SlOk K mg H F s o
  inj : ∀ (i j : Nat) ds es a, g[i]? = some (.own ds) → g[j]? = some (.own es) → σ[i]? = some (some (.ref a)) → σ[j]? = some (some (.ref a)) → i = j
  owf : ∀ (i : Nat) ds a, g[i]? = some (.own ds) → σ[i]? = some (some (.ref a)) → H0 a = none
  f0 : ∀ a, F0 a → F a
  fnew : ∀ a, F a → F0 a ∨ H0 a = none
  ftr : ∀ a, F a → ∃ o, H a = some o
  frame : ∀ a o, H0 a = some o → mg ≠ some a → H a = some o
  mug : MuOk K mg H F mu
  mu0 : ∀ a, mg = some a → ¬ F0 a ∧ ∃ o, H0 a = some o

/-- what an expression does to the heap -/
structure Stp (K : PySem.W.Frag) (mg : Option Addr) (H : Hp) (F : Fz) (mu' : Mu) (H' : Hp) (F' : Fz) : Prop where
  mon : Mon mg H H'
  sub : ∀ a, F a → F' a
  new : ∀ a, F' a → F a ∨ (H a = none ∧ ∃ o, H' a = some o)
  mug : MuOk K mg H' F' mu'

section
variable {K : PySem.W.Frag} {H0 H H' H'' : Hp} {F0 F F' F'' : Fz} {mg : Option Addr} {g : Gm} {mu mu' mu'' : Mu} {σ : St}
theorem Stp.ext (s : Stp K mg H F mu' H' F') (nf : ∀ a, mg = some a → ¬ F a ∧ ∃ vs, H a = some (.lst vs)) : Ext H F H' F' := by
  refine ⟨s.sub, fun a o hf h => s.mon a o h fun e => (nf a e).1 hf, fun a xs h => ?_⟩
  rcases h with h | ⟨o, h⟩
  · refine .inl (s.mon a _ h fun e => ?_)
    obtain ⟨vs, q⟩ := (nf a e).2
    rw [h] at q; cases q
  · refine .inr ⟨o, s.mon a _ h fun e => ?_⟩
    obtain ⟨vs, q⟩ := (nf a e).2
    rw [h] at q; cases q
theorem Stp.refl (m : MuOk K mg H F mu) : Stp K mg H F mu H F := ⟨Mon.refl H, fun _ h => h, fun _ h => .inl h, m⟩
theorem Mon.none {a : Addr} (m : Mon mg H H') (n : mg ≠ some a) (h : H' a = none) : H a = none := by
  cases e : H a with
  | none => rfl
  | some o =>
    rw [m a o e n] at h; cases h
theorem Stp.trans (s : Stp K mg H F mu' H' F') (t : Stp K mg H' F' mu'' H'' F'') : Stp K mg H F mu'' H'' F'' := by
  refine ⟨s.mon.trans t.mon, fun a h => t.sub a (s.sub a h), fun a h => ?_, t.mug⟩
  have nm : mg ≠ some a := fun e => by
    obtain ⟨vs, _, nf, _⟩ := t.mug a e
    exact absurd h nf
  rcases t.new a h with h1 | ⟨h1, o, h2⟩
  · rcases s.new a h1 with h3 | ⟨h3, o, h4⟩
    · exact .inl h3
    · exact .inr ⟨h3, o, t.mon a o h4 nm⟩
  · exact .inr ⟨s.mon.none nm h1, o, h2⟩
theorem Rel.nf (r : Rel K H0 F0 mg g mu σ H F) : ∀ a, mg = some a → ¬ F a ∧ ∃ vs, H a = some (.lst vs) := fun a e =>
  let ⟨vs, h, nf, _⟩ := r.mug a e
  ⟨nf, vs, h⟩
theorem Rel.ext (r : Rel K H0 F0 mg g mu σ H F) (s : Stp K mg H F mu' H' F') : Ext H F H' F' := s.ext r.nf
theorem Rel.ownNe (r : Rel K H0 F0 mg g mu σ H F) {i : Nat} {ds : List D} {a : Addr} (h1 : g[i]? = some (.own ds)) (h2 : σ[i]? = some (some (.ref a))) : mg ≠ some a := fun e => by
  obtain ⟨_, o, q⟩ := r.mu0 a e
  rw [r.owf i ds a h1 h2] at q; cases q
theorem Rel.step (r : Rel K H0 F0 mg g mu σ H F) (s : Stp K mg H F mu' H' F') : Rel K H0 F0 mg g mu' σ H' F' := by
  have e := r.ext s
  refine ⟨r.len, fun i sl o h1 h2 => ?_, r.inj, r.owf, fun a h => s.sub a (r.f0 a h), fun a h => ?_, fun a h => ?_, fun a o h n => s.mon a o (r.frame a o h n) n, s.mug, r.mu0⟩
  · have q := r.slot i sl o h1 h2
    cases sl with
    | no => trivial
    | val d =>
      obtain ⟨v, e1, q⟩ := q
      exact ⟨v, e1, q.ext e d v⟩
    | own ds =>
      obtain ⟨a, vs, e1, q1, q2, q3⟩ := q
      subst e1
      have nm := r.ownNe h1 h2
      refine ⟨a, vs, rfl, s.mon a _ q1 nm, fun z => ?_, q3.ext e ds vs⟩
      rcases s.new a z with z | ⟨z, _⟩
      · exact q2 z
      · rw [q1] at z; cases z
    | mug => exact q
    | exn c p a dx =>
      obtain ⟨e1, q⟩ := q
      refine ⟨e1, ?_⟩
      cases p with
      | none => trivial
      | some fd =>
        obtain ⟨x, v, e2, q1, q2⟩ := q
        refine ⟨x, v, e2, s.mon x _ q1 fun z => ?_, q2.ext e _ v⟩
        obtain ⟨vs, q3⟩ := (r.nf x z).2
        rw [q1] at q3; cases q3
  · rcases s.new a h with h | ⟨h, _⟩
    · exact r.fnew a h
    · by_cases e1 : mg = some a
      · obtain ⟨vs, q⟩ := (r.nf a e1).2
        rw [h] at q; cases q
      · refine .inr ?_
        cases e2 : H0 a with
        | none => rfl
        | some o =>
          rw [r.frame a o e2 e1] at h; cases h
  · rcases s.new a h with h1 | ⟨_, h2⟩
    · obtain ⟨o, h2⟩ := r.ftr a h1
      exact ⟨o, s.mon a o h2 fun e => (r.nf a e).1 h1⟩
    · exact h2
end

/-! ### an exception that is in hand -/
def ExcIs (K : PySem.W.Frag) (mc : Str → Option Value) (H : Hp) (F : Fz) (c : Str) (p : Option (Str × D)) (cls : Value) (dx : Option Addr) : Prop :=
  ∃ C : Addr, mc c = some (.ref C) ∧ cls = .ref C ∧
    match p with
    | none => True
    | some (f, d) => ∃ a v, dx = some a ∧ H a = some (.xd [(f, v)]) ∧ Rp K H F v d

/-! ### the readings -/
def tD (K : PySem.W.Frag) (mc : Str → Option Value) (W : WX) (m : EM) : TE := fun σ H Q => ∃ H0 F0 mg g mu F, Rel K H0 F0 mg g mu σ H F ∧
  (m g mu).wp (fun d mu' => ∀ v H' F', Stp K mg H F mu' H' F' → Rp K H' F' v d → Q v H')
    (fun c p mu' => ∀ H' F' cls dx, Stp K mg H F mu' H' F' → ExcIs K mc H' F' c p cls dx → W cls dx σ H')
def tDT (K : PySem.W.Frag) (mc : Str → Option Value) (W : WX) (m : TM) : TT := fun σ H Q => ∃ H0 F0 mg g mu F, Rel K H0 F0 mg g mu σ H F ∧
  (m g mu).wp (fun b mu' => ∀ H' F', Stp K mg H F mu' H' F' → Q b H')
    (fun c p mu' => ∀ H' F' cls dx, Stp K mg H F mu' H' F' → ExcIs K mc H' F' c p cls dx → W cls dx σ H')
def tDA (K : PySem.W.Frag) (mc : Str → Option Value) (W : WX) (m : AM) : TA := fun σ H Q => ∃ H0 F0 mg g mu F, Rel K H0 F0 mg g mu σ H F ∧
  (m g mu).wp (fun ds mu' => ∀ vs H' F', Stp K mg H F mu' H' F' → RpA K H' F' vs ds → Q vs H')
    (fun c p mu' => ∀ H' F' cls dx, Stp K mg H F mu' H' F' → ExcIs K mc H' F' c p cls dx → W cls dx σ H')
/-- e computes m -/
abbrev DE (X : Cx) (W : WX) (e : Expr) (m : EM) : Prop := PE X e (tD X.K X.mg W m)
abbrev DT (X : Cx) (W : WX) (e : Expr) (m : TM) : Prop := PT X e (tDT X.K X.mg W m)
abbrev DW (X : Cx) (W : WX) (e : Expr) (m : TM) : Prop := PW X e (tDT X.K X.mg W m)
abbrev DA (X : Cx) (W : WX) (es : List Expr) (m : AM) : Prop := PA X es (tDA X.K X.mg W m)

theorem PE_imp {X : Cx} {e : Expr} {t t' : TE} (h : PE X e t) (i : ∀ σ H Q, t' σ H Q → t σ H Q) : PE X e t' := ⟨fun pins s σ H Q I q => h.run pins s σ H Q I (i σ H Q q)⟩
theorem PT_imp {X : Cx} {e : Expr} {t t' : TT} (h : PT X e t) (i : ∀ σ H Q, t' σ H Q → t σ H Q) : PT X e t' := ⟨fun pins s σ H Q I q => h.run pins s σ H Q I (i σ H Q q)⟩
theorem PW_imp {X : Cx} {e : Expr} {t t' : TT} (h : PW X e t) (i : ∀ σ H Q, t' σ H Q → t σ H Q) : PW X e t' := ⟨fun wh pins s σ H Q I q => h.run wh pins s σ H Q I (i σ H Q q)⟩
theorem PA_imp {X : Cx} {e : List Expr} {t t' : TA} (h : PA X e t) (i : ∀ σ H Q, t' σ H Q → t σ H Q) : PA X e t' := ⟨fun pos pins s σ H Q I q => h.run pos pins s σ H Q I (i σ H Q q)⟩

section
variable {K : PySem.W.Frag} {mc : Str → Option Value} {W : WX} {H0 H : Hp} {F0 F : Fz} {mg : Option Addr} {g : Gm} {mu : Mu} {σ : St}
/-- one expression, then the rest -/
theorem tD_seq {β : Type} {m : EM} {f : D → Mu → R β} {Qb : β → Mu → Prop} {QV : VK} {Eb : Str → Option (Str × D) → Mu → Prop} (r : Rel K H0 F0 mg g mu σ H F)
    (h : ((m g mu).bind f).wp Qb Eb) (he : ∀ c p mu', Eb c p mu' → ∀ H' F' cls dx, Stp K mg H F mu' H' F' → ExcIs K mc H' F' c p cls dx → W cls dx σ H')
    (k : ∀ d mu1 v H1 F1, Stp K mg H F mu1 H1 F1 → Rp K H1 F1 v d → (f d mu1).wp Qb Eb → QV v H1) : tD K mc W m σ H QV := by
  refine ⟨H0, F0, mg, g, mu, F, r, R.wp_mono (R.wp_bind.mp h) (fun d mu1 hq v H1 F1 st rp => k d mu1 v H1 F1 st rp hq) fun c p mu' hE => he c p mu' hE⟩
theorem tDT_seq {β : Type} {m : TM} {f : Bool → Mu → R β} {Qb : β → Mu → Prop} {QV : Bool → Hp → Prop} {Eb : Str → Option (Str × D) → Mu → Prop} (r : Rel K H0 F0 mg g mu σ H F)
    (h : ((m g mu).bind f).wp Qb Eb) (he : ∀ c p mu', Eb c p mu' → ∀ H' F' cls dx, Stp K mg H F mu' H' F' → ExcIs K mc H' F' c p cls dx → W cls dx σ H')
    (k : ∀ b mu1 H1 F1, Stp K mg H F mu1 H1 F1 → (f b mu1).wp Qb Eb → QV b H1) : tDT K mc W m σ H QV := by
  refine ⟨H0, F0, mg, g, mu, F, r, R.wp_mono (R.wp_bind.mp h) (fun d mu1 hq H1 F1 st => k d mu1 H1 F1 st hq) fun c p mu' hE => he c p mu' hE⟩
theorem tDA_seq {β : Type} {m : AM} {f : List D → Mu → R β} {Qb : β → Mu → Prop} {QV : List V → Hp → Prop} {Eb : Str → Option (Str × D) → Mu → Prop} (r : Rel K H0 F0 mg g mu σ H F)
    (h : ((m g mu).bind f).wp Qb Eb) (he : ∀ c p mu', Eb c p mu' → ∀ H' F' cls dx, Stp K mg H F mu' H' F' → ExcIs K mc H' F' c p cls dx → W cls dx σ H')
    (k : ∀ ds mu1 vs H1 F1, Stp K mg H F mu1 H1 F1 → RpA K H1 F1 vs ds → (f ds mu1).wp Qb Eb → QV vs H1) : tDA K mc W m σ H QV := by
  refine ⟨H0, F0, mg, g, mu, F, r, R.wp_mono (R.wp_bind.mp h) (fun d mu1 hq v H1 F1 st rp => k d mu1 v H1 F1 st rp hq) fun c p mu' hE => he c p mu' hE⟩
end

/-! ### the steps of expressions, as functions of data -/
def eC (d : D) : EM := fun _ mu => .ok d mu
def eVar (i : Nat) : EM := fun g mu => match g[i]? with
  | some (.val d) => .ok d mu
  | _ => .bad
/-- two data in, one out, nothing raised -/
def eOp2 (f : D → D → Option D) (ma mb : EM) : EM := fun g mu => (ma g mu).bind fun x mu1 => (mb g mu1).bind fun y mu2 => match f x y with
  | some z => .ok z mu2
  | none => .bad
def eOp1 (f : D → Option D) (ma : EM) : EM := fun g mu => (ma g mu).bind fun x mu1 => match f x with
  | some z => .ok z mu1
  | none => .bad

/-- a two-place rule over values serves the function f of data -/
def Op2 (K : PySem.W.Frag) (r : R2) (f : D → D → Option D) : Prop :=
  ∀ (mg : Option Addr) (H : Hp) (F : Fz) (mu : Mu) (x y : V) (d e z : D) (Q : VK), MuOk K mg H F mu → Rp K H F x d → Rp K H F y e → f d e = some z →
    (∀ v H' F', Stp K mg H F mu H' F' → Rp K H' F' v z → Q v H') → r x y H Q
def Op1 (K : PySem.W.Frag) (r : V → Hp → VK → Prop) (f : D → Option D) : Prop :=
  ∀ (mg : Option Addr) (H : Hp) (F : Fz) (mu : Mu) (x : V) (d z : D) (Q : VK), MuOk K mg H F mu → Rp K H F x d → f d = some z →
    (∀ v H' F', Stp K mg H F mu H' F' → Rp K H' F' v z → Q v H') → r x H Q

section
variable {X : Cx} {W : WX} {a b c : Expr} {ma mb : EM} {pos : Pos}
theorem de_int {i : Int} {j : Nat} : DE X W (.Constant (.int i) j pos) (eC (.int i)) := PE_imp pe_int fun σ H Q ⟨H0, F0, mg, g, mu, F, r, h⟩ => h _ H F (.refl r.mug) (.int i)
theorem de_bl {i : Bool} {j : Nat} : DE X W (.Constant (.bool i) j pos) (eC (.bool i)) := PE_imp pe_bl fun σ H Q ⟨H0, F0, mg, g, mu, F, r, h⟩ => h _ H F (.refl r.mug) (.bl i)
theorem de_str {i : Str} {j : Nat} : DE X W (.Constant (.str i) j pos) (eC (.str i)) := PE_imp pe_str fun σ H Q ⟨H0, F0, mg, g, mu, F, r, h⟩ => h _ H F (.refl r.mug) (.str i)
theorem de_non {j : Nat} : DE X W (.Constant .none j pos) (eC .none) := PE_imp pe_non fun σ H Q ⟨H0, F0, mg, g, mu, F, r, h⟩ => h _ H F (.refl r.mug) .non
theorem de_var {i : Nat} {x : Str} (hN : X.N[i]? = some x) (hv : Vis X.env.scope x) (hd : (x == ("__debug__" : Str)) = false) (hcd : (x == ("__classdict__" : Str)) = false) : DE X W (.Name x pos) (eVar i) := by
  refine PE_imp (pe_var hN hv hd hcd) fun σ H Q ⟨H0, F0, mg, g, mu, F, r, h⟩ => ?_
  unfold eVar at h
  cases e : g[i]? with
  | none => rw [e] at h; exact h.elim
  | some s =>
    rw [e] at h
    cases s with
    | val d =>
      have hi : i < σ.length := by
        rw [← r.len]
        exact (List.getElem?_eq_some_iff.mp e).1
      obtain ⟨v, e1, q⟩ := r.slot i _ _ e (List.getElem?_eq_getElem hi)
      refine ⟨v, ?_, h v H F (.refl r.mug) q⟩
      rw [List.getElem?_eq_getElem hi, e1]
    | no => exact h.elim
    | own _ => exact h.elim
    | mug => exact h.elim
    | exn _ _ _ _ => exact h.elim
theorem de_op2 {r : R2} {f : D → D → Option D} {ex : Expr} (hr : ∀ {ta tb : TE}, PE X a ta → PE X b tb → PE X ex (tOp r ta tb)) (o : Op2 X.K r f) (ha : DE X W a ma) (hb : DE X W b mb) : DE X W ex (eOp2 f ma mb) := by
  refine PE_imp (hr ha hb) fun σ H Q ⟨H0, F0, mg, g, mu, F, rl, h⟩ => ?_
  refine tD_seq rl h (fun c p mu' hE => hE) fun d mu1 v H1 F1 st rp h1 => ?_
  have rl1 := rl.step st
  refine tD_seq rl1 h1 (fun c p mu' hE H' F' cls dx st' x => hE H' F' cls dx (st.trans st') x) fun e mu2 v2 H2 F2 st2 rp2 h2 => ?_
  have rl2 := rl1.step st2
  cases q : f d e with
  | none => rw [q] at h2; exact h2.elim
  | some z =>
    rw [q] at h2
    exact o mg H2 F2 mu2 v v2 d e z Q rl2.mug (rp.ext (rl1.ext st2) d v) rp2 q fun v3 H3 F3 st3 rp3 => h2 v3 H3 F3 ((st.trans st2).trans st3) rp3
theorem de_op1 {r : V → Hp → VK → Prop} {f : D → Option D} {ex : Expr} (hr : ∀ {ta : TE}, PE X a ta → PE X ex (tUn r ta)) (o : Op1 X.K r f) (ha : DE X W a ma) : DE X W ex (eOp1 f ma) := by
  refine PE_imp (hr ha) fun σ H Q ⟨H0, F0, mg, g, mu, F, rl, h⟩ => ?_
  refine tD_seq rl h (fun c p mu' hE => hE) fun d mu1 v H1 F1 st rp h1 => ?_
  have rl1 := rl.step st
  cases q : f d with
  | none => rw [q] at h1; exact h1.elim
  | some z =>
    rw [q] at h1
    exact o mg H1 F1 mu1 v d z Q rl1.mug rp q fun v3 H3 F3 st3 rp3 => h1 v3 H3 F3 (st.trans st3) rp3
end
end Wf
/-! W2: operators over data. -/
namespace Wf
open PySem L2

section
variable {K : PySem.W.Frag} {H : Hp} {F : Fz} {mg : Option Addr} {mu : Mu} {p : Addr} {o : HO}
theorem ext_new (hp : H p = none) {F' : Fz} (hs : ∀ a, F a → F' a) : Ext H F (upd H p o) F' := by
  have k : ∀ a u, H a = some u → upd H p o a = some u := fun a u e => by rw [upd_ne (ne_of_none e hp)]; exact e
  refine ⟨hs, fun a u _ e => k a u e, fun a xs h => ?_⟩
  rcases h with h | ⟨u, h⟩
  · exact .inl (k a _ h)
  · exact .inr ⟨u, k a _ h⟩
theorem stp_new (m : MuOk K mg H F mu) (hp : H p = none) : Stp K mg H F mu (upd H p o) F := by
  refine ⟨fun a u e _ => by rw [upd_ne (ne_of_none e hp)]; exact e, fun _ h => h, fun _ h => .inl h, fun a e => ?_⟩
  obtain ⟨vs, q1, q2, q3, q4⟩ := m a e
  exact ⟨vs, by rw [upd_ne (ne_of_none q1 hp)]; exact q1, q2, q3, q4.ext (ext_new hp fun _ h => h) _ _⟩
/-- a new object that is not to be written -/
theorem stp_newF (m : MuOk K mg H F mu) (hp : H p = none) : Stp K mg H F mu (upd H p o) (fun a => F a ∨ a = p) := by
  refine ⟨fun a u e _ => by rw [upd_ne (ne_of_none e hp)]; exact e, fun _ h => .inl h, fun a h => ?_, fun a e => ?_⟩
  · rcases h with h | h
    · exact .inl h
    · subst h; exact .inr ⟨hp, o, upd_same⟩
  · obtain ⟨vs, q1, q2, q3, q4⟩ := m a e
    refine ⟨vs, by rw [upd_ne (ne_of_none q1 hp)]; exact q1, fun z => ?_, q3, q4.ext (ext_new hp fun _ h => .inl h) _ _⟩
    rcases z with z | z
    · exact q2 z
    · subst z; rw [hp] at q1; cases q1
theorem rp_tup {vs : List V} {ds : List D} (hp : H p = none) (r : RpA K H F vs ds) : Rp K (upd H p (.tup vs)) F (.ref p) (.tuple ds) :=
  .tup (SqT.of upd_same) (r.ext (ext_new hp fun _ h => h) _ _)
theorem rp_lst {vs : List V} {ds : List D} (hp : H p = none) (r : RpA K H F vs ds) : Rp K (upd H p (.lst vs)) (fun a => F a ∨ a = p) (.ref p) (.list ds) :=
  .lst (.inr rfl) upd_same (r.ext (ext_new hp fun _ h => .inl h) _ _)
end

/-! ### functions of data -/
def lineN : Nat := 16777216
theorem line_eq : sizeLine = lineN := sizeLine_eq
def fAdd : D → D → Option D
  | .int a, .int b => some (.int (a + b))
  | .str a, .str b => if a.length + b.length ≤ lineN then some (.str (a ++ b)) else none
  | .tuple a, .tuple b => if a.length + b.length ≤ lineN then some (.tuple (a ++ b)) else none
  | .list a, .list b => if a.length + b.length ≤ lineN then some (.list (a ++ b)) else none
  | _, _ => none
def fSub : D → D → Option D
  | .int a, .int b => some (.int (a - b))
  | _, _ => none
def fMul : D → D → Option D
  | .int a, .int b => if a.natAbs.log2 + b.natAbs.log2 < 1000000 then some (.int (a * b)) else none
  | .list a, .int k => if -(2 ^ 63) ≤ k ∧ k < 2 ^ 63 ∧ a.length * k.toNat ≤ lineN then some (.list (List.replicate k.toNat a).flatten) else none
  | _, _ => none
def fDiv : D → D → Option D
  | .int a, .int b => if b ≠ 0 ∧ b.natAbs.log2 < 9000 then some (.int (a.fdiv b)) else none
  | _, _ => none
def fMod : D → D → Option D
  | .int a, .int b => if b ≠ 0 then some (.int (a.fmod b)) else none
  | _, _ => none
def fPow : D → D → Option D
  | .int a, .int b => if 0 ≤ b ∧ b ≤ 1000000 ∧ a.natAbs < 2 ^ 64 then some (.int (a ^ b.toNat)) else none
  | _, _ => none
def fNeg : D → Option D
  | .int a => some (.int (-a))
  | _ => none
def fLt : D → D → Option D
  | .int a, .int b => some (.bool (decide (a < b)))
  | _, _ => none
def fLe : D → D → Option D
  | .int a, .int b => some (.bool (decide (a ≤ b)))
  | _, _ => none
def fGt : D → D → Option D
  | .int a, .int b => some (.bool (decide (b < a)))
  | _, _ => none
def fGe : D → D → Option D
  | .int a, .int b => some (.bool (decide (b ≤ a)))
  | _, _ => none
def fEq (d e : D) : Option D := if d.canLay0 && e.canLay0 && (decide (d.depth ≤ 64) || decide (e.depth ≤ 64)) then some (.bool (PyData.eqv d e)) else none
def fNe (d e : D) : Option D := if d.canLay0 && e.canLay0 && (decide (d.depth ≤ 64) || decide (e.depth ≤ 64)) then some (.bool (!PyData.eqv d e)) else none
def isNone : D → Bool
  | .none => true
  | _ => false
/-- is None; is True, is False of a bool -/
def fIs (d e : D) : Option D := match e with
  | .none => some (.bool (isNone d))
  | .bool b => match d with
    | .bool a => some (.bool (decide (a = b)))
    | _ => none
  | _ => none
def fIsN (d e : D) : Option D := match e with
  | .none => some (.bool (!isNone d))
  | .bool b => match d with
    | .bool a => some (.bool (!decide (a = b)))
    | _ => none
  | _ => none

section
variable {K : PySem.W.Frag} {X : Cx}
theorem o2_int {g : Int → Int → V} {h : Int → Int → D} {f : D → D → Option D} (hg : ∀ i j K H F, Rp K H F (g i j) (h i j)) (hf : ∀ d e z, f d e = some z → ∃ i j, d = .int i ∧ e = .int j ∧ z = h i j) : Op2 K (rI0 g) f := by
  intro mg H F mu x y d e z Q m rx ry hz k
  obtain ⟨i, j, rfl, rfl, rfl⟩ := hf d e z hz
  cases rx
  cases ry
  exact ⟨i, j, rfl, rfl, k _ H F (.refl m) (hg i j _ _ _)⟩
theorem o2_intC {C : Int → Int → Prop} {g : Int → Int → V} {h : Int → Int → D} {f : D → D → Option D} (hg : ∀ i j K H F, Rp K H F (g i j) (h i j)) (hf : ∀ d e z, f d e = some z → ∃ i j, d = .int i ∧ e = .int j ∧ C i j ∧ z = h i j) : Op2 K (rI C g) f := by
  intro mg H F mu x y d e z Q m rx ry hz k
  obtain ⟨i, j, rfl, rfl, hc, rfl⟩ := hf d e z hz
  cases rx
  cases ry
  exact ⟨i, j, rfl, rfl, hc, k _ H F (.refl m) (hg i j _ _ _)⟩

theorem o2_sub : Op2 K (rI0 fun i j => .int (i - j)) fSub := o2_int (h := fun i j => .int (i - j)) (fun i j _ _ _ => .int _) fun d e z hz => by
  cases d <;> cases e <;> simp [fSub] at hz
  exact ⟨_, _, rfl, rfl, hz.symm⟩
theorem o2_lt : Op2 K (rI0 fun i j => .bl (decide (i < j))) fLt := o2_int (h := fun i j => .bool (decide (i < j))) (fun i j _ _ _ => .bl _) fun d e z hz => by
  cases d <;> cases e <;> simp [fLt] at hz
  exact ⟨_, _, rfl, rfl, hz.symm⟩
theorem o2_le : Op2 K (rI0 fun i j => .bl (decide (i ≤ j))) fLe := o2_int (h := fun i j => .bool (decide (i ≤ j))) (fun i j _ _ _ => .bl _) fun d e z hz => by
  cases d <;> cases e <;> simp [fLe] at hz
  exact ⟨_, _, rfl, rfl, hz.symm⟩
theorem o2_gt : Op2 K (rI0 fun i j => .bl (decide (j < i))) fGt := o2_int (h := fun i j => .bool (decide (j < i))) (fun i j _ _ _ => .bl _) fun d e z hz => by
  cases d <;> cases e <;> simp [fGt] at hz
  exact ⟨_, _, rfl, rfl, hz.symm⟩
theorem o2_ge : Op2 K (rI0 fun i j => .bl (decide (j ≤ i))) fGe := o2_int (h := fun i j => .bool (decide (j ≤ i))) (fun i j _ _ _ => .bl _) fun d e z hz => by
  cases d <;> cases e <;> simp [fGe] at hz
  exact ⟨_, _, rfl, rfl, hz.symm⟩
def CModA (_ j : Int) : Prop := j ≠ 0
def CDivA (_ j : Int) : Prop := j ≠ 0 ∧ j.natAbs.log2 < 9000
theorem op_fdivA : OpR X (binaryOp .FloorDiv) (rI CDivA fun i j => .int (i.fdiv j)) := opI fun i j _ _ _ _ _ hc q =>
  PyProof.Rows.floordiv_int hc.1 q (.inl (PyProof.noPylong_of_log2 hc.2))
theorem o2_div : Op2 K (rI CDivA fun i j => .int (i.fdiv j)) fDiv := o2_intC (h := fun i j => .int (i.fdiv j)) (fun i j _ _ _ => .int _) fun d e z hz => by
  cases d <;> cases e <;> simp [fDiv] at hz
  exact ⟨_, _, rfl, rfl, hz.1, hz.2.symm⟩
theorem o2_mod : Op2 K (rI (fun _ j => j ≠ 0) fun i j => .int (i.fmod j)) fMod := o2_intC (h := fun i j => .int (i.fmod j)) (fun i j _ _ _ => .int _) fun d e z hz => by
  cases d <;> cases e <;> simp [fMod] at hz
  exact ⟨_, _, rfl, rfl, hz.1, hz.2.symm⟩
theorem o2_pow : Op2 K (rI CPow fun i j => .int (i ^ j.toNat)) fPow := o2_intC (h := fun i j => .int (i ^ j.toNat)) (fun i j _ _ _ => .int _) fun d e z hz => by
  cases d with
  | int a =>
    cases e with
    | int b =>
      unfold fPow at hz
      dsimp only at hz
      split at hz
      · rename_i c
        injection hz with hz
        exact ⟨_, _, rfl, rfl, c, hz.symm⟩
      · cases hz
    | _ => cases hz
  | _ => cases hz
theorem o1_neg : Op1 K (rU fun i => .int (-i)) fNeg := by
  intro mg H F mu x d z Q m rx hz k
  cases d with
  | int a =>
    cases rx
    injection hz with hz
    subst hz
    exact ⟨a, rfl, k _ H F (.refl m) (.int _)⟩
  | _ => cases hz

/-! + -/
def rAddA (K : PySem.W.Frag) : R2 := fun x y H Q => rI0 (fun i j => .int (i + j)) x y H Q ∨ ((∃ i j, x = .str i ∧ y = .str j ∧ i.length + j.length ≤ sizeLine ∧ Q (.str (i ++ j)) H) ∨ (rCatA K x y H Q ∨ rCat x y H Q))
theorem op_addA : OpR X (binaryOp .Add) (rAddA X.K) := op_add.or (op_add_str.or (op_catA.or op_cat))
theorem o2_add : Op2 K (rAddA K) fAdd := by
  intro mg H F mu x y d e z Q m rx ry hz k
  cases d with
  | int a =>
    cases e with
    | int b =>
      cases rx; cases ry
      injection hz with hz
      subst hz
      exact .inl ⟨a, b, rfl, rfl, k _ H F (.refl m) (.int _)⟩
    | _ => cases hz
  | str a =>
    cases e with
    | str b =>
      cases rx; cases ry
      unfold fAdd at hz
      dsimp only at hz
      split at hz
      · rename_i c
        injection hz with hz
        subst hz
        exact .inr (.inl ⟨a, b, rfl, rfl, by rw [line_eq]; exact c, k _ H F (.refl m) (.str _)⟩)
      · cases hz
    | _ => cases hz
  | tuple a =>
    cases e with
    | tuple b =>
      cases rx with
      | tup hx rx =>
      cases ry with
      | tup hy ry =>
      unfold fAdd at hz
      dsimp only at hz
      split at hz
      · rename_i c
        injection hz with hz
        subst hz
        refine .inr (.inr (.inl ⟨_, _, _, _, rfl, rfl, hx, hy, by rw [line_eq, rx.length, ry.length]; exact c, fun e => ?_, fun _ e => ?_, fun _ _ p hp => ?_⟩))
        · subst e
          cases rx
          exact k _ H F (.refl m) (.tup hy (by simpa using ry))
        · subst e
          cases ry
          exact k _ H F (.refl m) (.tup hx (by simpa using rx))
        · exact k _ _ _ (stp_new m hp) (rp_tup hp (rx.app ry))
      · cases hz
    | _ => cases hz
  | list a =>
    cases e with
    | list b =>
      cases rx with
      | lst fx hx rx =>
      cases ry with
      | lst fy hy ry =>
      unfold fAdd at hz
      dsimp only at hz
      split at hz
      · rename_i c
        injection hz with hz
        subst hz
        exact .inr (.inr (.inr ⟨_, _, _, _, rfl, rfl, hx, hy, by rw [line_eq, rx.length, ry.length]; exact c, fun p hp => k _ _ _ (stp_newF m hp) (rp_lst hp (rx.app ry))⟩))
      · cases hz
    | _ => cases hz
  | _ => cases hz
theorem RpA.flat {H : Hp} {F : Fz} {vs : List V} {ds : List D} (r : RpA K H F vs ds) : ∀ n : Nat, RpA K H F (List.replicate n vs).flatten (List.replicate n ds).flatten
  | 0 => by simpa using RpA.nil
  | n + 1 => by
    rw [List.replicate_succ, List.replicate_succ, List.flatten_cons, List.flatten_cons]
    exact r.app (RpA.flat r n)
/-! * -/
def rMulA (K : PySem.W.Frag) : R2 := fun x y H Q => rI CMulW (fun i j => .int (i * j)) x y H Q ∨ rRep x y H Q
theorem op_mulA : OpR X (binaryOp .Mult) (rMulA X.K) := op_mulW.or op_rep
theorem o2_mul : Op2 K (rMulA K) fMul := by
  intro mg H F mu x y d e z Q m rx ry hz k
  cases d with
  | int a =>
    cases e with
    | int b =>
      cases rx; cases ry
      unfold fMul at hz
      dsimp only at hz
      split at hz
      · rename_i c
        injection hz with hz
        subst hz
        exact .inl ⟨a, b, rfl, rfl, c, k _ H F (.refl m) (.int _)⟩
      · cases hz
    | _ => cases hz
  | list a =>
    cases e with
    | int b =>
      cases ry
      cases rx with
      | lst fx hx rx =>
      unfold fMul at hz
      dsimp only at hz
      split at hz
      · rename_i c
        injection hz with hz
        subst hz
        exact .inr ⟨_, b, _, rfl, rfl, hx, c.1, c.2.1, by rw [line_eq, rx.length]; exact c.2.2, fun p hp => k _ _ _ (stp_newF m hp) (rp_lst hp (rx.flat _))⟩
      · cases hz
    | _ => cases hz
  | _ => cases hz

/-! == -/
mutual
theorem Rp.dp {H : Hp} {F : Fz} : ∀ (d : D) (v : V), Rp K H F v d → d.canLay0 = true → Dp K H v d
  | .none, _, h, _ => by cases h; exact .non
  | .bool b, _, h, _ => by cases h; exact .bl b
  | .int i, _, h, _ => by cases h; exact .int i
  | .str x, _, h, _ => by cases h; exact .str x
  | .tuple ds, _, h, l => by
    cases h with
    | tup hs ha => exact .tup hs (RpA.dp ds _ ha (by simpa only [PyData.canLay0] using l))
  | .list ds, _, h, l => by
    cases h with
    | lst hf hs ha => exact .lst (SqL.of hs) (RpA.dp ds _ ha (by simpa only [PyData.canLay0] using l))
  | .dict _, _, _, l => by simp only [PyData.canLay0] at l; cases l
theorem RpA.dp {H : Hp} {F : Fz} : ∀ (ds : List D) (vs : List V), RpA K H F vs ds → PyData.canLayAll0 ds = true → DpAll K H vs ds
  | [], _, h, _ => by cases h; exact .nil
  | d :: ds, _, h, l => by
    simp only [PyData.canLayAll0, Bool.and_eq_true] at l
    cases h with
    | cons h1 h2 => exact .cons (Rp.dp d _ h1 l.1) (RpA.dp ds _ h2 l.2)
end
def rEqL (K : PySem.W.Frag) (ng : Bool) : R2 := fun x y H Q => ∃ d e, Dp K H x d ∧ Dp K H y e ∧ d.canLay0 = true ∧ e.canLay0 = true ∧ min d.depth e.depth ≤ 64 ∧ Q (.bl (if ng then !PyData.eqv d e else PyData.eqv d e)) H
theorem op_eqL (hu : X.A.units + 64 < cLine) : OpR X (compareOp .Eq) (rEqL X.K false) := by
  intro pins s σ H x y v u Q I rx ry h
  obtain ⟨d, e, hd, he, sd, se, hm, q⟩ := h
  obtain ⟨as, r1⟩ := Dp.reads I d x v hd rx
  obtain ⟨bs, r2⟩ := Dp.reads I e y u he ry
  exact SeqAt.compareEq_reads r1 r2 sd se (by omega) ⟨.bl _, H, I, rfl, q⟩
theorem op_neL (hu : X.A.units + 64 < cLine) : OpR X (compareOp .NotEq) (rEqL X.K true) := by
  intro pins s σ H x y v u Q I rx ry h
  obtain ⟨d, e, hd, he, sd, se, hm, q⟩ := h
  obtain ⟨as, r1⟩ := Dp.reads I d x v hd rx
  obtain ⟨bs, r2⟩ := Dp.reads I e y u he ry
  exact SeqAt.compareNe_reads r1 r2 sd se (by omega) ⟨.bl _, H, I, rfl, q⟩
theorem min64 {a b : Nat} (h : (decide (a ≤ 64) || decide (b ≤ 64)) = true) : min a b ≤ 64 := by
  simp only [Bool.or_eq_true, decide_eq_true_eq] at h
  omega
theorem o2_eq : Op2 K (rEqL K false) fEq := by
  intro mg H F mu x y d e z Q m rx ry hz k
  unfold fEq at hz
  split at hz
  · rename_i c
    simp only [Bool.and_eq_true] at c
    injection hz with hz
    subst hz
    exact ⟨d, e, rx.dp d x c.1.1, ry.dp e y c.1.2, c.1.1, c.1.2, min64 c.2, k _ H F (.refl m) (.bl _)⟩
  · cases hz
theorem o2_ne : Op2 K (rEqL K true) fNe := by
  intro mg H F mu x y d e z Q m rx ry hz k
  unfold fNe at hz
  split at hz
  · rename_i c
    simp only [Bool.and_eq_true] at c
    injection hz with hz
    subst hz
    exact ⟨d, e, rx.dp d x c.1.1, ry.dp e y c.1.2, c.1.1, c.1.2, min64 c.2, k _ H F (.refl m) (.bl _)⟩
  · cases hz

/-! is -/
def rIsA : R2 := fun x y H Q => (y = .non ∧ Q (.bl (decide (x = .non))) H) ∨ ∃ a b, x = .bl a ∧ y = .bl b ∧ Q (.bl (decide (a = b))) H
def rIsNA : R2 := fun x y H Q => (y = .non ∧ Q (.bl (!decide (x = .non))) H) ∨ ∃ a b, x = .bl a ∧ y = .bl b ∧ Q (.bl (!decide (a = b))) H
theorem op_isA : OpR X (compareOp .Is) rIsA := op_isN.or op_is_bl
theorem op_isNA : OpR X (compareOp .IsNot) rIsNA := op_notN.or op_isnot_bl
theorem rp_none {H : Hp} {F : Fz} {x : V} {d : D} (r : Rp K H F x d) : decide (x = V.non) = isNone d := by
  cases r <;> simp [isNone]
theorem o2_is : Op2 K rIsA fIs := by
  intro mg H F mu x y d e z Q m rx ry hz k
  cases e with
  | none =>
    cases ry
    injection hz with hz
    subst hz
    exact .inl ⟨rfl, k _ H F (.refl m) (by rw [rp_none rx]; exact .bl _)⟩
  | bool b =>
    cases ry
    cases d with
    | bool a =>
      cases rx
      injection hz with hz
      subst hz
      exact .inr ⟨a, b, rfl, rfl, k _ H F (.refl m) (.bl _)⟩
    | _ => cases hz
  | _ => cases hz
theorem o2_isN : Op2 K rIsNA fIsN := by
  intro mg H F mu x y d e z Q m rx ry hz k
  cases e with
  | none =>
    cases ry
    injection hz with hz
    subst hz
    exact .inl ⟨rfl, k _ H F (.refl m) (by rw [rp_none rx]; exact .bl _)⟩
  | bool b =>
    cases ry
    cases d with
    | bool a =>
      cases rx
      injection hz with hz
      subst hz
      exact .inr ⟨a, b, rfl, rfl, k _ H F (.refl m) (.bl _)⟩
    | _ => cases hz
  | _ => cases hz
end
end Wf
/-! W3: tests, displays, places, slices, calls of built-ins. -/
namespace Wf
open PySem L2

/-! ### tests -/
def mT (m : EM) : TM := fun g mu => (m g mu).bind fun d mu1 => match d with
  | .bool b => .ok b mu1
  | _ => .bad
def tru : D → Option Bool
  | .none => some false
  | .bool b => some b
  | .int i => some (i != 0)
  | .str x => if x.length ≤ lineN then some ((x.length : Int) != 0) else none
  | .tuple ds => some (!ds.isEmpty)
  | .list ds => some (!ds.isEmpty)
  | .dict [] => some false
  | .dict _ => none
def mTru (m : EM) : TM := fun g mu => (m g mu).bind fun d mu1 => match tru d with
  | some b => .ok b mu1
  | none => .bad
def mNot (m : TM) : TM := fun g mu => (m g mu).bind fun b mu1 => .ok (!b) mu1
def mAnd (ma mb : TM) : TM := fun g mu => (ma g mu).bind fun b mu1 => if b = true then mb g mu1 else .ok false mu1
def mOr (ma mb : TM) : TM := fun g mu => (ma g mu).bind fun b mu1 => if b = true then .ok true mu1 else mb g mu1
def eNot (m : EM) : EM := fun g mu => (m g mu).bind fun d mu1 => match d with
  | .bool b => .ok (.bool (!b)) mu1
  | _ => .bad
def eAnd (ma mb : EM) : EM := fun g mu => (ma g mu).bind fun d mu1 => match d with
  | .bool b => if b = true then mb g mu1 else .ok (.bool false) mu1
  | _ => .bad
def eOr (ma mb : EM) : EM := fun g mu => (ma g mu).bind fun d mu1 => match d with
  | .bool b => if b = true then .ok (.bool true) mu1 else mb g mu1
  | _ => .bad
def eIf (mt : TM) (ma mb : EM) : EM := fun g mu => (mt g mu).bind fun b mu1 => if b = true then ma g mu1 else mb g mu1
def eChain (f f' : D → D → Option D) (ma mb mc : EM) : EM := fun g mu => (ma g mu).bind fun x mu1 => (mb g mu1).bind fun y mu2 => match f x y with
  | some (.bool b) => if b = true then (mc g mu2).bind fun z mu3 => (match f' y z with
      | some w => .ok w mu3
      | none => .bad) else .ok (.bool false) mu2
  | _ => .bad

section
variable {X : Cx} {W : WX} {a b c : Expr} {rest : List Expr} {ma mb mc : EM} {mt mu' mtb : TM} {pos : Pos}
theorem tru_ok {K : PySem.W.Frag} {H : Hp} {F : Fz} {x : V} {d : D} {k : Bool} (r : Rp K H F x d) (h : tru d = some k) : TruV K x H k := by
  cases r with
  | non => injection h with h; exact h.symm
  | bl b => injection h with h; exact h.symm
  | int i => injection h with h; exact h.symm
  | str z =>
    have h : (if z.length ≤ lineN then some ((z.length : Int) != 0) else none) = some k := h
    split at h
    · rename_i c
      injection h with h
      exact ⟨by rw [line_eq]; exact c, h.symm⟩
    · cases h
  | tup hs ra =>
    injection h with h
    refine .inr (.inl ⟨_, hs, ?_⟩)
    rw [← h]
    cases ra <;> rfl
  | lst hf hs ra =>
    injection h with h
    refine .inl ⟨_, SqL.of hs, ?_⟩
    rw [← h]
    cases ra <;> rfl
  | dic hf hs =>
    injection h with h
    exact .inr (.inr ⟨_, hs, h.symm⟩)
  | scr hf hs ra => cases h
  | scrK hk ra => cases h
/-- a value's truth as a test -/
theorem dt_truth (ha : DE X W a ma) (he : ∀ whole, isTrue a X.env whole = (do let v ← whole; standAt a.pos; holding [v] (truthy v))) : DT X W a (mTru ma) := by
  refine PT_imp (pt_truth ha he) fun σ H Q ⟨H0, F0, mg, g, mu, F, rl, h⟩ => ?_
  refine tD_seq rl h (fun c p mu' hE => hE) fun d mu1 v H1 F1 st rp h1 => ?_
  cases q : tru d with
  | none => rw [q] at h1; exact h1.elim
  | some k =>
    rw [q] at h1
    exact ⟨k, tru_ok rp q, h1 H1 F1 st⟩
/-- a comparison as a test -/
theorem dt_cmp {op : CmpOp} {r : R2} {f : D → D → Option D} (ho : OpR X (compareOp op) r) (o : Op2 X.K r f) (ha : DE X W a ma) (hb : DE X W b mb) (hm : behindInMarks op b = false) : DT X W (.Compare a [op] [b] pos) (mT (eOp2 f ma mb)) := by
  refine PT_imp (pt_cmpR ho ha hb hm) fun σ H Q ⟨H0, F0, mg, g, mu, F, rl, h⟩ => ?_
  have h := R.wp_bind.mp h
  refine tD_seq rl h (fun c p mu' hE => hE) fun d mu1 v H1 F1 st rp h1 => ?_
  have rl1 := rl.step st
  refine tD_seq rl1 h1 (fun c p mu' hE H' F' cls dx st' x => hE H' F' cls dx (st.trans st') x) fun e mu2 v2 H2 F2 st2 rp2 h2 => ?_
  have rl2 := rl1.step st2
  cases q : f d e with
  | none => rw [q] at h2; exact h2.elim
  | some z =>
    rw [q] at h2
    refine o mg H2 F2 mu2 v v2 d e z _ rl2.mug (rp.ext (rl1.ext st2) d v) rp2 q fun v3 H3 F3 st3 rp3 => ?_
    cases z with
    | bool k =>
      cases rp3
      exact ⟨k, rfl, h2 H3 F3 ((st.trans st2).trans st3)⟩
    | _ => exact False.elim h2
theorem dt_not (ha : DT X W a mt) : DT X W (.UnaryOp .Not a pos) (mNot mt) := by
  refine PT_imp (pt_not ha) fun σ H Q ⟨H0, F0, mg, g, mu, F, rl, h⟩ => ?_
  exact tDT_seq rl h (fun c p mu' hE => hE) fun d mu1 H1 F1 st h1 => h1 H1 F1 st
theorem dt_of (h : DW X W a mt) : DT X W a mt := PW.pt h
theorem dw_and1 (ha : DT X W a mt) : DW X W (.BoolOp .And [a] pos) mt := pw_and1 ha
theorem dw_or1 (ha : DT X W a mt) : DW X W (.BoolOp .Or [a] pos) mt := pw_or1 ha
theorem dw_and (ha : DT X W a mt) (hb : DW X W (.BoolOp .And (b :: rest) pos) mtb) : DW X W (.BoolOp .And (a :: b :: rest) pos) (mAnd mt mtb) := by
  refine PW_imp (pw_and ha hb) fun σ H Q ⟨H0, F0, mg, g, mu, F, rl, h⟩ => ?_
  refine tDT_seq rl h (fun c p mu' hE => hE) fun d mu1 H1 F1 st h1 => ?_
  cases d with
  | true =>
    simp only [if_true] at h1 ⊢
    exact ⟨H0, F0, mg, g, mu1, F1, rl.step st, R.wp_mono h1 (fun b mu2 k H' F' st' => k H' F' (st.trans st')) fun c p mu2 k H' F' cls dx st' x => k H' F' cls dx (st.trans st') x⟩
  | false =>
    simp only [Bool.false_eq_true, if_false] at h1 ⊢
    exact h1 H1 F1 st
theorem dw_or (ha : DT X W a mt) (hb : DW X W (.BoolOp .Or (b :: rest) pos) mtb) : DW X W (.BoolOp .Or (a :: b :: rest) pos) (mOr mt mtb) := by
  refine PW_imp (pw_or ha hb) fun σ H Q ⟨H0, F0, mg, g, mu, F, rl, h⟩ => ?_
  refine tDT_seq rl h (fun c p mu' hE => hE) fun d mu1 H1 F1 st h1 => ?_
  cases d with
  | false =>
    simp only [Bool.false_eq_true, if_false] at h1 ⊢
    exact ⟨H0, F0, mg, g, mu1, F1, rl.step st, R.wp_mono h1 (fun b mu2 k H' F' st' => k H' F' (st.trans st')) fun c p mu2 k H' F' cls dx st' x => k H' F' cls dx (st.trans st') x⟩
  | true =>
    simp only [if_true] at h1 ⊢
    exact h1 H1 F1 st
theorem de_not (ha : DE X W a ma) : DE X W (.UnaryOp .Not a pos) (eNot ma) := by
  refine PE_imp (pe_not ha) fun σ H Q ⟨H0, F0, mg, g, mu, F, rl, h⟩ => ?_
  refine tD_seq rl h (fun c p mu' hE => hE) fun d mu1 v H1 F1 st rp h1 => ?_
  cases d with
  | bool k =>
    cases rp
    exact ⟨k, rfl, h1 _ H1 F1 st (.bl _)⟩
  | _ => exact False.elim h1
theorem de_one {op : BoolOp} (ha : DE X W a ma) : DE X W (.BoolOp op [a] pos) ma := pe_one ha
theorem de_and (ha : DE X W a ma) (hb : DE X W (.BoolOp .And (b :: rest) pos) mb) : DE X W (.BoolOp .And (a :: b :: rest) pos) (eAnd ma mb) := by
  refine PE_imp (pe_and ha hb) fun σ H Q ⟨H0, F0, mg, g, mu, F, rl, h⟩ => ?_
  refine tD_seq rl h (fun c p mu' hE => hE) fun d mu1 v H1 F1 st rp h1 => ?_
  cases d with
  | bool k =>
    cases rp
    refine ⟨k, rfl, ?_⟩
    cases k with
    | true =>
      simp only [if_true] at h1 ⊢
      exact ⟨H0, F0, mg, g, mu1, F1, rl.step st, R.wp_mono h1 (fun b mu2 k v' H' F' st' => k v' H' F' (st.trans st')) fun c p mu2 k H' F' cls dx st' x => k H' F' cls dx (st.trans st') x⟩
    | false =>
      simp only [Bool.false_eq_true, if_false] at h1 ⊢
      exact h1 _ H1 F1 st (.bl _)
  | _ => exact False.elim h1
theorem de_or (ha : DE X W a ma) (hb : DE X W (.BoolOp .Or (b :: rest) pos) mb) : DE X W (.BoolOp .Or (a :: b :: rest) pos) (eOr ma mb) := by
  refine PE_imp (pe_or ha hb) fun σ H Q ⟨H0, F0, mg, g, mu, F, rl, h⟩ => ?_
  refine tD_seq rl h (fun c p mu' hE => hE) fun d mu1 v H1 F1 st rp h1 => ?_
  cases d with
  | bool k =>
    cases rp
    refine ⟨k, rfl, ?_⟩
    cases k with
    | false =>
      simp only [Bool.false_eq_true, if_false] at h1 ⊢
      exact ⟨H0, F0, mg, g, mu1, F1, rl.step st, R.wp_mono h1 (fun b mu2 k v' H' F' st' => k v' H' F' (st.trans st')) fun c p mu2 k H' F' cls dx st' x => k H' F' cls dx (st.trans st') x⟩
    | true =>
      simp only [if_true] at h1 ⊢
      exact h1 _ H1 F1 st (.bl _)
  | _ => exact False.elim h1
theorem de_if (hc : DT X W c mt) (ha : DE X W a ma) (hb : DE X W b mb) : DE X W (.IfExp c a b pos) (eIf mt ma mb) := by
  refine PE_imp (pe_ifExp hc ha hb) fun σ H Q ⟨H0, F0, mg, g, mu, F, rl, h⟩ => ?_
  refine tDT_seq rl h (fun c p mu' hE => hE) fun d mu1 H1 F1 st h1 => ?_
  cases d with
  | true =>
    simp only [if_true] at h1 ⊢
    exact ⟨H0, F0, mg, g, mu1, F1, rl.step st, R.wp_mono h1 (fun b mu2 k v' H' F' st' => k v' H' F' (st.trans st')) fun c p mu2 k H' F' cls dx st' x => k H' F' cls dx (st.trans st') x⟩
  | false =>
    simp only [Bool.false_eq_true, if_false] at h1 ⊢
    exact ⟨H0, F0, mg, g, mu1, F1, rl.step st, R.wp_mono h1 (fun b mu2 k v' H' F' st' => k v' H' F' (st.trans st')) fun c p mu2 k H' F' cls dx st' x => k H' F' cls dx (st.trans st') x⟩
/-- the reading of a chain -/
theorem chain_rd {r r' : R2} {f f' : D → D → Option D} (o : Op2 X.K r f) (o' : Op2 X.K r' f') {σ : St} {H : Hp} {Q : VK} (h : tD X.K X.mg W (eChain f f' ma mb mc) σ H Q) :
    tChain r r' (tD X.K X.mg W ma) (tD X.K X.mg W mb) (tD X.K X.mg W mc) σ H Q := by
  obtain ⟨H0, F0, mg, g, mu, F, rl, h⟩ := h
  refine tD_seq rl h (fun c p mu' hE => hE) fun d mu1 v H1 F1 st rp h1 => ?_
  have rl1 := rl.step st
  refine tD_seq rl1 h1 (fun c p mu' hE H' F' cls dx st' x => hE H' F' cls dx (st.trans st') x) fun e mu2 v2 H2 F2 st2 rp2 h2 => ?_
  have rl2 := rl1.step st2
  cases q : f d e with
  | none => rw [q] at h2; exact h2.elim
  | some z =>
    rw [q] at h2
    refine o mg H2 F2 mu2 v v2 d e z _ rl2.mug (rp.ext (rl1.ext st2) d v) rp2 q fun v3 H3 F3 st3 rp3 => ?_
    have rl3 := rl2.step st3
    have st13 := (st.trans st2).trans st3
    cases z with
    | bool k =>
      cases rp3
      refine ⟨k, rfl, ?_⟩
      cases k with
      | true =>
        simp only [if_true] at h2 ⊢
        refine tD_seq rl3 h2 (fun c p mu' hE H' F' cls dx st' x => hE H' F' cls dx (st13.trans st') x) fun w mu4 v4 H4 F4 st4 rp4 h4 => ?_
        have rl4 := rl3.step st4
        cases q' : f' e w with
        | none => rw [q'] at h4; exact h4.elim
        | some u =>
          rw [q'] at h4
          exact o' mg H4 F4 mu4 v2 v4 e w u Q rl4.mug ((rp2.ext (rl2.ext st3) e v2).ext (rl3.ext st4) e v2) rp4 q' fun v5 H5 F5 st5 rp5 => h4 v5 H5 F5 ((st13.trans st4).trans st5) rp5
      | false =>
        simp only [Bool.false_eq_true, if_false] at h2 ⊢
        exact h2 _ H3 F3 st13 (.bl _)
    | _ => exact False.elim h2
theorem de_chain {op op' : CmpOp} {r r' : R2} {f f' : D → D → Option D} (ho : OpR X (compareOp op) r) (ho' : OpR X (compareOp op') r') (o : Op2 X.K r f) (o' : Op2 X.K r' f') (ha : DE X W a ma) (hb : DE X W b mb) (hc : DE X W c mc)
    (hm : lastMarks [op, op'] [b, c] = false) : DE X W (.Compare a [op, op'] [b, c] pos) (eChain f f' ma mb mc) :=
  PE_imp (pe_chain ho ho' ha hb hc hm) fun σ H Q h => chain_rd o o' h
theorem dt_chain {op op' : CmpOp} {r r' : R2} {f f' : D → D → Option D} (ho : OpR X (compareOp op) r) (ho' : OpR X (compareOp op') r') (o : Op2 X.K r f) (o' : Op2 X.K r' f') (ha : DE X W a ma) (hb : DE X W b mb) (hc : DE X W c mc)
    (hm : lastMarks [op, op'] [b, c] = false) : DT X W (.Compare a [op, op'] [b, c] pos) (mT (eChain f f' ma mb mc)) := by
  refine PT_imp (pt_chain ho ho' ha hb hc hm) fun σ H Q ⟨H0, F0, mg, g, mu, F, rl, h⟩ => ?_
  have h := R.wp_bind.mp h
  refine chain_rd o o' ⟨H0, F0, mg, g, mu, F, rl, R.wp_mono h (fun d mu' k v H' F' st rp => ?_) fun c p mu' k => k⟩
  cases d with
  | bool k' =>
    cases rp
    exact ⟨k', rfl, k H' F' st⟩
  | _ => exact False.elim k
end

/-! ### argument lists and displays -/
def aNil : AM := fun _ mu => .ok [] mu
def aCons (ma : EM) (mr : AM) : AM := fun g mu => (ma g mu).bind fun d mu1 => (mr g mu1).bind fun ds mu2 => .ok (d :: ds) mu2
/-- *e, e a tuple or a list -/
def aStar (ma : EM) (mr : AM) : AM := fun g mu => (ma g mu).bind fun d mu1 => match d with
  | .tuple xs => (mr g mu1).bind fun ds mu2 => .ok (xs ++ ds) mu2
  | .list xs => (mr g mu1).bind fun ds mu2 => .ok (xs ++ ds) mu2
  | _ => .bad
def eTup (m : AM) : EM := fun g mu => (m g mu).bind fun ds mu1 => if ds.length ≤ lineN then .ok (.tuple ds) mu1 else .bad
def eLst (m : AM) : EM := fun g mu => (m g mu).bind fun ds mu1 => if ds.length ≤ lineN then .ok (.list ds) mu1 else .bad
section
variable {X : Cx} {W : WX} {a b c : Expr} {es : List Expr} {ma mb mc : EM} {mr : AM} {pos : Pos} {k : Nat}
theorem da_nil : DA X W [] aNil := PA_imp pa_nil fun σ H Q ⟨H0, F0, mg, g, mu, F, rl, h⟩ => h _ H F (.refl rl.mug) .nil
theorem da_cons (ha : DE X W a ma) (hr : DA X W es mr) (hs : starEach (a :: es) X.env = (false, eval a X.env) :: starEach es X.env) : DA X W (a :: es) (aCons ma mr) := by
  refine PA_imp (pa_cons ha hr hs) fun σ H Q ⟨H0, F0, mg, g, mu, F, rl, h⟩ => ?_
  refine tD_seq rl h (fun c p mu' hE => hE) fun d mu1 v H1 F1 st rp h1 => ?_
  have rl1 := rl.step st
  refine tDA_seq rl1 h1 (fun c p mu' hE H' F' cls dx st' x => hE H' F' cls dx (st.trans st') x) fun ds mu2 vs H2 F2 st2 rp2 h2 => ?_
  exact h2 _ H2 F2 (st.trans st2) (.cons (rp.ext (rl1.ext st2) d v) rp2)
theorem da_star {p : Pos} (ha : DE X W a ma) (hr : DA X W es mr) (hs : starEach (.Starred a p :: es) X.env = (true, eval a X.env) :: starEach es X.env) : DA X W (.Starred a p :: es) (aStar ma mr) := by
  refine PA_imp (StX.pa_star ha hr hs) fun σ H Q ⟨H0, F0, mg, g, mu, F, rl, h⟩ => ?_
  refine tD_seq rl h (fun c p mu' hE => hE) fun d mu1 v H1 F1 st rp h1 => ?_
  have rl1 := rl.step st
  cases d with
  | tuple xs =>
    cases rp with
    | tup hs ra =>
    refine ⟨_, _, rfl, .inl hs, ?_⟩
    refine tDA_seq rl1 h1 (fun c p mu' hE H' F' cls dx st' x => hE H' F' cls dx (st.trans st') x) fun ds mu2 vs H2 F2 st2 rp2 h2 => ?_
    exact h2 _ H2 F2 (st.trans st2) ((ra.ext (rl1.ext st2) xs _).app rp2)
  | list xs =>
    cases rp with
    | lst hf hs ra =>
    refine ⟨_, _, rfl, .inr (SqL.of hs), ?_⟩
    refine tDA_seq rl1 h1 (fun c p mu' hE H' F' cls dx st' x => hE H' F' cls dx (st.trans st') x) fun ds mu2 vs H2 F2 st2 rp2 h2 => ?_
    exact h2 _ H2 F2 (st.trans st2) ((ra.ext (rl1.ext st2) xs _).app rp2)
  | _ => exact False.elim h1
theorem de_tup (h : DA X W es mr) : DE X W (.Tuple es k pos) (eTup mr) := by
  refine PE_imp (pe_tup h) fun σ H Q ⟨H0, F0, mg, g, mu, F, rl, h⟩ => ?_
  refine tDA_seq rl h (fun c p mu' hE => hE) fun ds mu1 vs H1 F1 st ra h1 => ?_
  split at h1
  · rename_i c
    refine ⟨by rw [line_eq, ra.length]; exact c, fun p hp => ?_⟩
    exact h1 _ _ _ (st.trans (stp_new (rl.step st).mug hp)) (rp_tup hp ra)
  · exact False.elim h1
theorem de_lst (h : DA X W es mr) : DE X W (.List es pos) (eLst mr) := by
  refine PE_imp (pe_lst h) fun σ H Q ⟨H0, F0, mg, g, mu, F, rl, h⟩ => ?_
  refine tDA_seq rl h (fun c p mu' hE => hE) fun ds mu1 vs H1 F1 st ra h1 => ?_
  split at h1
  · rename_i c
    refine ⟨by rw [line_eq, ra.length]; exact c, fun p hp => ?_⟩
    exact h1 _ _ _ (st.trans (stp_newF (rl.step st).mug hp)) (rp_lst hp ra)
  · exact False.elim h1
end

/-! ### places and slices -/
def scrOf : D → Option (List D)
  | .dict [(.none, .list ds)] => some ds
  | _ => none
def fIx : D → D → Option D
  | .list ds, .int i => atI ds i
  | .tuple ds, .int i => atI ds i
  | .str z, .int i => if z.length ≤ lineN then (atI z.cps.toList i).map fun c => .str ⟨#[c]⟩ else none
  | .dict [(.none, .list ds)], .int i => atI ds i
  | _, _ => none
theorem atI_rp {K : PySem.W.Frag} {H : Hp} {F : Fz} {vs : List V} {ds : List D} {i : Int} {d : D} (r : RpA K H F vs ds) (h : atI ds i = some d) : ∃ v, atI vs i = some v ∧ Rp K H F v d := by
  unfold atI at h ⊢
  rw [r.length]
  cases e : ixN ds.length i with
  | none => rw [e] at h; cases h
  | some j =>
    rw [e] at h
    obtain ⟨v, h1, h2⟩ := r.get (i := j) (d := d) h
    exact ⟨v, h1, h2⟩
theorem o2_ix {K : PySem.W.Frag} : Op2 K (rIx K) fIx := by
  intro mg H F mu x y d e z Q m rx ry hz k
  cases e with
  | int i =>
    cases ry
    cases rx with
    | lst hf hs ra =>
      obtain ⟨v, h1, h2⟩ := atI_rp ra hz
      exact .inl ⟨_, _, i, v, rfl, rfl, SqL.of hs, h1, k v H F (.refl m) h2⟩
    | tup hs ra =>
      obtain ⟨v, h1, h2⟩ := atI_rp ra hz
      exact .inr (.inl ⟨_, _, i, v, rfl, rfl, hs, h1, k v H F (.refl m) h2⟩)
    | scr hf hs ra =>
      obtain ⟨v, h1, h2⟩ := atI_rp ra hz
      exact .inl ⟨_, _, i, v, rfl, rfl, .inl (.inr ⟨_, hs⟩), h1, k v H F (.refl m) h2⟩
    | scrK hk ra =>
      obtain ⟨v, h1, h2⟩ := atI_rp ra hz
      exact .inl ⟨_, _, i, v, rfl, rfl, .inr hk, h1, k v H F (.refl m) h2⟩
    | str s =>
      have hz' : (if s.length ≤ lineN then (atI s.cps.toList i).map fun c => PyData.str ⟨#[c]⟩ else none) = some z := hz
      split at hz'
      · rename_i c
        cases q : atI s.cps.toList i with
        | none => rw [q] at hz'; cases hz'
        | some cc =>
          rw [q] at hz'
          injection hz' with hz'
          subst hz'
          exact .inr (.inr ⟨s, i, cc, rfl, rfl, by rw [line_eq]; exact c, q, k _ H F (.refl m) (.str _)⟩)
      · cases hz'
    | non => cases hz
    | bl _ => cases hz
    | int _ => cases hz
    | dic _ _ => cases hz
  | _ => cases rx <;> cases hz
/-- a part of a slice -/
abbrev OM := Gm → Mu → R (Option Int)
def oNo : OM := fun _ mu => .ok none mu
def oSo (m : EM) : OM := fun g mu => (m g mu).bind fun d mu1 => match d with
  | .int i => .ok (some i) mu1
  | _ => .bad
def tDO (K : PySem.W.Frag) (mc : Str → Option Value) (W : WX) (m : OM) : TO := fun σ H Q => ∃ H0 F0 mg g mu F, Rel K H0 F0 mg g mu σ H F ∧
  (m g mu).wp (fun o mu' => ∀ H' F', Stp K mg H F mu' H' F' → Q o H')
    (fun c p mu' => ∀ H' F' cls dx, Stp K mg H F mu' H' F' → ExcIs K mc H' F' c p cls dx → W cls dx σ H')
abbrev DO (X : Cx) (W : WX) (e : Option Expr) (m : OM) : Prop := PO X e (tDO X.K X.mg W m)
theorem PO_imp {X : Cx} {e : Option Expr} {t t' : TO} (h : PO X e t) (i : ∀ σ H Q, t' σ H Q → t σ H Q) : PO X e t' := ⟨fun pins s σ H Q I q => h.run pins s σ H Q I (i σ H Q q)⟩
def cutD (ds : List D) (lo hi : Option Int) : List D := (ds.drop (HT.sIx ds.length 0 lo)).take (HT.sIx ds.length ds.length hi - HT.sIx ds.length 0 lo)
def fCut : D → Option Int → Option Int → Option D
  | .list ds, lo, hi => some (.list (cutD ds lo hi))
  | .tuple ds, lo, hi => some (.tuple (cutD ds lo hi))
  | .dict [(.none, .list ds)], lo, hi => some (.list (cutD ds lo hi))
  | _, _, _ => none
def eCut (ma : EM) (ml mh : OM) : EM := fun g mu => (ma g mu).bind fun d mu1 => (ml g mu1).bind fun lo mu2 => (mh g mu2).bind fun hi mu3 => match fCut d lo hi with
  | some z => .ok z mu3
  | none => .bad
theorem RpA.cut {K : PySem.W.Frag} {H : Hp} {F : Fz} {vs : List V} {ds : List D} (r : RpA K H F vs ds) (lo hi : Option Int) : RpA K H F (cutV vs lo hi) (cutD ds lo hi) := by
  unfold cutV cutD
  rw [r.length]
  exact (r.drop _).take _
section
variable {X : Cx} {W : WX} {a b c : Expr} {lo hi : Option Expr} {es : List Expr} {ma mb mc : EM} {ml mh : OM} {mr : AM} {pos p2 : Pos} {k : Nat}
theorem do_no : DO X W none oNo := PO_imp po_none fun σ H Q ⟨H0, F0, mg, g, mu, F, rl, h⟩ => h H F (.refl rl.mug)
theorem do_so (ha : DE X W a ma) : DO X W (some a) (oSo ma) := by
  refine PO_imp (po_some ha) fun σ H Q ⟨H0, F0, mg, g, mu, F, rl, h⟩ => ?_
  refine tD_seq rl h (fun c p mu' hE => hE) fun d mu1 v H1 F1 st rp h1 => ?_
  cases d with
  | int i =>
    cases rp
    exact ⟨i, rfl, h1 H1 F1 st⟩
  | _ => exact False.elim h1
def rCutA (K : PySem.W.Frag) : V → Option Int → Option Int → Hp → VK → Prop := fun x lo hi H Q => rSlL K x lo hi H Q ∨ rSlA K x lo hi H Q
theorem sl_A : SlR X (rCutA X.K) := sl_list.or sl_tupA
theorem de_ix (ha : DE X W a ma) (hb : DE X W b mb) (hs : PlainIx b) : DE X W (.Subscript a b pos) (eOp2 fIx ma mb) := de_op2 (fun h1 h2 => pe_ix ix_seq h1 h2 hs) o2_ix ha hb
theorem de_cut (ha : DE X W a ma) (hl : DO X W lo ml) (hh : DO X W hi mh) : DE X W (.Subscript a (.Slice lo hi none p2) pos) (eCut ma ml mh) := by
  refine PE_imp (pe_slice sl_A ha hl hh) fun σ H Q ⟨H0, F0, mg, g, mu, F, rl, h⟩ => ?_
  refine tD_seq rl h (fun c p mu' hE => hE) fun d mu1 v H1 F1 st rp h1 => ?_
  have rl1 := rl.step st
  refine ⟨H0, F0, mg, g, mu1, F1, rl1, R.wp_mono (R.wp_bind.mp h1) (fun l mu2 h2 H2 F2 st2 => ?_) fun c p mu2 hE H' F' cls dx st' x => hE H' F' cls dx (st.trans st') x⟩
  have rl2 := rl1.step st2
  refine ⟨H0, F0, mg, g, mu2, F2, rl2, R.wp_mono (R.wp_bind.mp h2) (fun u mu3 h3 H3 F3 st3 => ?_) fun c p mu2 hE H' F' cls dx st' x => hE H' F' cls dx ((st.trans st2).trans st') x⟩
  have rl3 := rl2.step st3
  have rp3 := (rp.ext (rl1.ext st2) d v).ext (rl2.ext st3) d v
  have st13 := (st.trans st2).trans st3
  cases q : fCut d l u with
  | none => rw [q] at h3; exact h3.elim
  | some z =>
    rw [q] at h3
    cases rp3 with
    | lst hf hs ra =>
      injection q with q
      subst q
      exact .inl ⟨_, _, rfl, SqL.of hs, fun p hp => h3 _ _ _ (st13.trans (stp_newF rl3.mug hp)) (rp_lst hp (ra.cut l u))⟩
    | scr hf hs ra =>
      injection q with q
      subst q
      exact .inl ⟨_, _, rfl, .inl (.inr ⟨_, hs⟩), fun p hp => h3 _ _ _ (st13.trans (stp_newF rl3.mug hp)) (rp_lst hp (ra.cut l u))⟩
    | scrK hk ra =>
      injection q with q
      subst q
      exact .inl ⟨_, _, rfl, .inr hk, fun p hp => h3 _ _ _ (st13.trans (stp_newF rl3.mug hp)) (rp_lst hp (ra.cut l u))⟩
    | tup hs ra =>
      injection q with q
      subst q
      refine .inr ⟨_, _, rfl, hs, fun e => ?_, fun _ p hp => h3 _ _ _ (st13.trans (stp_new rl3.mug hp)) (rp_tup hp (ra.cut l u))⟩
      refine h3 _ _ _ st13 (.tup hs ?_)
      have w := ra.cut l u
      unfold cutV at w
      rw [e.1, e.2] at w
      simpa using w
    | _ => cases q
end
end Wf
/-! W4: calls of built-ins over data. -/
namespace Wf
open PySem L2

def Cl (K : PySem.W.Frag) (r : List V → Hp → VK → Prop) (f : List D → Option D) : Prop :=
  ∀ (mg : Option Addr) (H : Hp) (F : Fz) (mu : Mu) (vs : List V) (ds : List D) (z : D) (Q : VK), MuOk K mg H F mu → RpA K H F vs ds → f ds = some z →
    (∀ v H' F', Stp K mg H F mu H' F' → Rp K H' F' v z → Q v H') → r vs H Q
def eCall (f : List D → Option D) (m : AM) : EM := fun g mu => (m g mu).bind fun ds mu1 => match f ds with
  | some z => .ok z mu1
  | none => .bad

section
variable {X : Cx} {W : WX} {x : Str} {p pos : Pos} {e : Expr} {es : List Expr} {m : AM} {id T : String} {r : List V → Hp → VK → Prop} {f : List D → Option D}
theorem de_callB (hc : CallR X (.builtin id) r) (o : Cl X.K r f) (hg : Gl X x) (hm : X.mg x = none) (hv : bootBuiltins x = some (.builtin id)) (ha : DA X W (e :: es) m) (hn : x ≠ "__name__") (hdb : (x == ("__debug__" : Str)) = false)
    (he : starEach (e :: es) X.env = (false, eval e X.env) :: starEach es X.env) (hpl : (backTo pos (starEach es X.env)).any (·.1) = false) : DE X W (.Call (.Name x p) (e :: es) [] pos) (eCall f m) := by
  refine PE_imp (pe_callB hc hg hm hv ha hn hdb he hpl) fun σ H Q ⟨H0, F0, mg, g, mu, F, rl, h⟩ => ?_
  refine tDA_seq rl h (fun c p mu' hE => hE) fun ds mu1 vs H1 F1 st ra h1 => ?_
  cases q : f ds with
  | none => rw [q] at h1; exact h1.elim
  | some z =>
    rw [q] at h1
    exact o mg H1 F1 mu1 vs ds z Q (rl.step st).mug ra q fun v H2 F2 st2 rp2 => h1 v H2 F2 (st.trans st2) rp2
theorem de_callTy (hc : CallR X (.type T) r) (o : Cl X.K r f) (hg : Gl X x) (hm : X.mg x = none) (hv : bootBuiltins x = some (.type T)) (ha : DA X W (e :: es) m) (hn : x ≠ "__name__") (hdb : (x == ("__debug__" : Str)) = false)
    (he : starEach (e :: es) X.env = (false, eval e X.env) :: starEach es X.env) (hpl : (backTo pos (starEach es X.env)).any (·.1) = false) : DE X W (.Call (.Name x p) (e :: es) [] pos) (eCall f m) := by
  refine PE_imp (pe_callTy hc hg hm hv ha hn hdb he hpl) fun σ H Q ⟨H0, F0, mg, g, mu, F, rl, h⟩ => ?_
  refine tDA_seq rl h (fun c p mu' hE => hE) fun ds mu1 vs H1 F1 st ra h1 => ?_
  cases q : f ds with
  | none => rw [q] at h1; exact h1.elim
  | some z =>
    rw [q] at h1
    exact o mg H1 F1 mu1 vs ds z Q (rl.step st).mug ra q fun v H2 F2 st2 rp2 => h1 v H2 F2 (st.trans st2) rp2
end

/-! ### the functions -/
def lenD : D → Option Int
  | .list ds => some ds.length
  | .tuple ds => some ds.length
  | .str z => if z.length ≤ lineN then some z.length else none
  | .dict [(.none, .list ds)] => some ds.length
  | _ => none
def fLen : List D → Option D
  | [d] => (lenD d).map .int
  | _ => none
def fInt : List D → Option D
  | [.int i] => some (.int i)
  | [.bool b] => some (.int (if b then 1 else 0))
  | _ => none
def fAbs : List D → Option D
  | [.int i] => some (.int (if i < 0 then -i else i))
  | _ => none
def intsOf : List D → Option (List Int)
  | [] => some []
  | .int i :: r => (intsOf r).map (i :: ·)
  | _ :: _ => none
def bolsOf : List D → Option (List Bool)
  | [] => some []
  | .bool i :: r => (bolsOf r).map (i :: ·)
  | _ :: _ => none
def fSum : List D → Option D
  | [.list ds] => (intsOf ds).map fun ns => .int ns.sum
  | _ => none
def maxL : Int → List Int → Int
  | m, [] => m
  | m, x :: r => maxL (if m < x then x else m) r
def minL : Int → List Int → Int
  | m, [] => m
  | m, x :: r => minL (if x < m then x else m) r
def fMax : List D → Option D
  | [.list ds] => match intsOf ds with
    | some (x :: r) => some (.int (maxL x r))
    | _ => none
  | [.int i, .int j] => some (.int (if j > i then j else i))
  | _ => none
def fMin : List D → Option D
  | [.list ds] => match intsOf ds with
    | some (x :: r) => some (.int (minL x r))
    | _ => none
  | [.int i, .int j] => some (.int (if j < i then j else i))
  | _ => none
def fAll : List D → Option D
  | [.list ds] => (bolsOf ds).map fun bs => .bool (bs.all id)
  | _ => none
def fAny : List D → Option D
  | [.list ds] => (bolsOf ds).map fun bs => .bool (bs.any id)
  | _ => none
def fTuple : List D → Option D
  | [.list ds] => some (.tuple ds)
  | [.tuple ds] => some (.tuple ds)
  | _ => none
def fList : List D → Option D
  | [.list ds] => some (.list ds)
  | [.tuple ds] => some (.list ds)
  | _ => none
def fDivmod : List D → Option D
  | [.int i, .int j] => if 0 < j ∧ j < 1073741824 then some (.tuple [.int (i / j), .int (i % j)]) else none
  | _ => none
/-- room for a repr: the ints are short enough, no dict, the text fits -/
def showOk (d : D) : Bool := d.showable && !d.hasDict && decide (d.shown.length ≤ lineN) && decide (d.depth ≤ 60)
def fRepr : List D → Option D
  | [d] => if showOk d then some (.str d.shown) else none
  | _ => none

section
variable {K : PySem.W.Frag} {X : Cx} {H : Hp} {F : Fz}
theorem RpA.ints : ∀ {vs : List V} {ds : List D} {ns : List Int}, RpA K H F vs ds → intsOf ds = some ns → vs = ns.map V.int
  | _, [], ns, .nil, h => by injection h with h; subst h; rfl
  | _, .int i :: r, ns, .cons h1 h2, h => by
    cases h1
    unfold intsOf at h
    cases q : intsOf r with
    | none => rw [q] at h; cases h
    | some ms =>
      rw [q] at h
      injection h with h
      subst h
      rw [RpA.ints h2 q, List.map_cons]
  | _, .none :: _, _, .cons _ _, h => by cases h
  | _, .bool _ :: _, _, .cons _ _, h => by cases h
  | _, .str _ :: _, _, .cons _ _, h => by cases h
  | _, .tuple _ :: _, _, .cons _ _, h => by cases h
  | _, .list _ :: _, _, .cons _ _, h => by cases h
  | _, .dict _ :: _, _, .cons _ _, h => by cases h
theorem RpA.bols : ∀ {vs : List V} {ds : List D} {ns : List Bool}, RpA K H F vs ds → bolsOf ds = some ns → vs = ns.map V.bl
  | _, [], ns, .nil, h => by injection h with h; subst h; rfl
  | _, .bool i :: r, ns, .cons h1 h2, h => by
    cases h1
    unfold bolsOf at h
    cases q : bolsOf r with
    | none => rw [q] at h; cases h
    | some ms =>
      rw [q] at h
      injection h with h
      subst h
      rw [RpA.bols h2 q, List.map_cons]
  | _, .none :: _, _, .cons _ _, h => by cases h
  | _, .int _ :: _, _, .cons _ _, h => by cases h
  | _, .str _ :: _, _, .cons _ _, h => by cases h
  | _, .tuple _ :: _, _, .cons _ _, h => by cases h
  | _, .list _ :: _, _, .cons _ _, h => by cases h
  | _, .dict _ :: _, _, .cons _ _, h => by cases h
theorem RpA.one {vs : List V} {d : D} (r : RpA K H F vs [d]) : ∃ v, vs = [v] ∧ Rp K H F v d := by
  cases r with
  | cons h1 h2 => cases h2; exact ⟨_, rfl, h1⟩
theorem RpA.two {vs : List V} {d e : D} (r : RpA K H F vs [d, e]) : ∃ v u, vs = [v, u] ∧ Rp K H F v d ∧ Rp K H F u e := by
  cases r with
  | cons h1 h2 =>
    obtain ⟨u, rfl, h3⟩ := h2.one
    exact ⟨_, u, rfl, h1, h3⟩
theorem one_of {f : List D → Option D} {ds : List D} {z : D} (h : f ds = some z) (h0 : f [] = none) (h2 : ∀ a b r, f (a :: b :: r) = none) : ∃ d, ds = [d] := by
  cases ds with
  | nil => rw [h0] at h; cases h
  | cons a r =>
    cases r with
    | nil => exact ⟨a, rfl⟩
    | cons b r => rw [h2] at h; cases h
theorem cl_len : Cl K (fun xs H Q => ∃ x n, xs = [x] ∧ LenV K x H n ∧ Q (.int n) H) fLen := by
  intro mg H F mu vs ds z Q m ra hz k
  obtain ⟨d, rfl⟩ := one_of hz rfl fun _ _ _ => rfl
  obtain ⟨v, rfl, rp⟩ := ra.one
  cases rp with
  | lst hf hs rb =>
    injection hz with hz
    subst hz
    exact ⟨_, _, rfl, .inl ⟨_, SqL.of hs, rfl⟩, by rw [rb.length]; exact k _ H F (.refl m) (.int _)⟩
  | tup hs rb =>
    injection hz with hz
    subst hz
    exact ⟨_, _, rfl, .inr ⟨_, hs, rfl⟩, by rw [rb.length]; exact k _ H F (.refl m) (.int _)⟩
  | scr hf hs rb =>
    injection hz with hz
    subst hz
    exact ⟨_, _, rfl, .inl ⟨_, .inl (.inr ⟨_, hs⟩), rfl⟩, by rw [rb.length]; exact k _ H F (.refl m) (.int _)⟩
  | scrK hk rb =>
    injection hz with hz
    subst hz
    exact ⟨_, _, rfl, .inl ⟨_, .inr hk, rfl⟩, by rw [rb.length]; exact k _ H F (.refl m) (.int _)⟩
  | str s =>
    have hz : (if s.length ≤ lineN then some (s.length : Int) else none).map PyData.int = some z := hz
    split at hz
    · rename_i c
      injection hz with hz
      subst hz
      exact ⟨_, _, rfl, ⟨by rw [line_eq]; exact c, rfl⟩, k _ H F (.refl m) (.int _)⟩
    · cases hz
  | _ => cases hz
theorem cl_int : Cl K (fun xs H Q => (∃ i, xs = [.int i] ∧ Q (.int i) H) ∨ ∃ k, xs = [.bl k] ∧ Q (.int (if k then 1 else 0)) H) fInt := by
  intro mg H F mu vs ds z Q m ra hz k
  cases ds with
  | nil => cases hz
  | cons a r =>
    cases r with
    | nil =>
      obtain ⟨v, rfl, rp⟩ := ra.one
      cases rp with
      | int i =>
        injection hz with hz
        subst hz
        exact .inl ⟨i, rfl, k _ H F (.refl m) (.int _)⟩
      | bl b =>
        injection hz with hz
        subst hz
        exact .inr ⟨b, rfl, k _ H F (.refl m) (.int _)⟩
      | _ => cases hz
    | cons b r => cases a <;> cases hz
theorem cl_abs : Cl K (fun xs H Q => ∃ i, xs = [.int i] ∧ Q (.int (if i < 0 then -i else i)) H) fAbs := by
  intro mg H F mu vs ds z Q m ra hz k
  cases ds with
  | nil => cases hz
  | cons a r =>
    cases r with
    | nil =>
      obtain ⟨v, rfl, rp⟩ := ra.one
      cases rp with
      | int i =>
        injection hz with hz
        subst hz
        exact ⟨i, rfl, k _ H F (.refl m) (.int _)⟩
      | _ => cases hz
    | cons b r => cases a <;> cases hz
/-- a list alone is the argument -/
theorem list_of {f : List D → Option D} {ds : List D} {z : D} (h : f ds = some z) (h0 : ∀ xs, (∀ ys, xs ≠ [.list ys]) → f xs = none) : ∃ ys, ds = [.list ys] := by
  by_cases q : ∃ ys, ds = [.list ys]
  · exact q
  · rw [h0 ds fun ys e => q ⟨ys, e⟩] at h; cases h
theorem cl_sum : Cl K (rSum K) fSum := by
  intro mg H F mu vs ds z Q m ra hz k
  unfold fSum at hz
  split at hz
  · rename_i ys
    obtain ⟨v, rfl, rp⟩ := ra.one
    cases rp with
    | lst hf hs rb =>
      cases q : intsOf ys with
      | none => rw [q] at hz; cases hz
      | some ns =>
        rw [q] at hz
        injection hz with hz
        subst hz
        exact ⟨_, ns, rfl, by rw [← rb.ints q]; exact SqL.of hs, k _ H F (.refl m) (.int _)⟩
  · cases hz
theorem cl_all : Cl K (rAll K) fAll := by
  intro mg H F mu vs ds z Q m ra hz k
  unfold fAll at hz
  split at hz
  · rename_i ys
    obtain ⟨v, rfl, rp⟩ := ra.one
    cases rp with
    | lst hf hs rb =>
      cases q : bolsOf ys with
      | none => rw [q] at hz; cases hz
      | some ns =>
        rw [q] at hz
        injection hz with hz
        subst hz
        exact ⟨_, ns, rfl, by rw [← rb.bols q]; exact SqL.of hs, k _ H F (.refl m) (.bl _)⟩
  · cases hz
theorem cl_any : Cl K (rAny K) fAny := by
  intro mg H F mu vs ds z Q m ra hz k
  unfold fAny at hz
  split at hz
  · rename_i ys
    obtain ⟨v, rfl, rp⟩ := ra.one
    cases rp with
    | lst hf hs rb =>
      cases q : bolsOf ys with
      | none => rw [q] at hz; cases hz
      | some ns =>
        rw [q] at hz
        injection hz with hz
        subst hz
        exact ⟨_, ns, rfl, by rw [← rb.bols q]; exact SqL.of hs, k _ H F (.refl m) (.bl _)⟩
  · cases hz
theorem maxL_le : ∀ (l : List Int) (m : Int), m ≤ maxL m l ∧ ∀ y ∈ l, y ≤ maxL m l
  | [], m => ⟨Int.le_refl m, fun _ h => nomatch h⟩
  | x :: r, m => by
    obtain ⟨h1, h2⟩ := maxL_le r (if m < x then x else m)
    unfold maxL
    have h3 : m ≤ (if m < x then x else m) ∧ x ≤ (if m < x then x else m) := by split <;> omega
    generalize (if m < x then x else m) = t at h1 h2 h3
    refine ⟨by omega, fun y hy => ?_⟩
    rcases List.mem_cons.mp hy with e | hy
    · omega
    · exact h2 y hy
theorem maxL_mem : ∀ (l : List Int) (m : Int), maxL m l ∈ m :: l
  | [], m => List.mem_cons_self
  | x :: r, m => by
    have h := maxL_mem r (if m < x then x else m)
    unfold maxL
    rcases List.mem_cons.mp h with h | h
    · rw [h]
      split
      · exact List.mem_cons_of_mem _ List.mem_cons_self
      · exact List.mem_cons_self
    · exact List.mem_cons_of_mem _ (List.mem_cons_of_mem _ h)
theorem minL_le : ∀ (l : List Int) (m : Int), minL m l ≤ m ∧ ∀ y ∈ l, minL m l ≤ y
  | [], m => ⟨Int.le_refl m, fun _ h => nomatch h⟩
  | x :: r, m => by
    obtain ⟨h1, h2⟩ := minL_le r (if x < m then x else m)
    unfold minL
    have h3 : (if x < m then x else m) ≤ m ∧ (if x < m then x else m) ≤ x := by split <;> omega
    generalize (if x < m then x else m) = t at h1 h2 h3
    refine ⟨by omega, fun y hy => ?_⟩
    rcases List.mem_cons.mp hy with e | hy
    · omega
    · exact h2 y hy
theorem minL_mem : ∀ (l : List Int) (m : Int), minL m l ∈ m :: l
  | [], m => List.mem_cons_self
  | x :: r, m => by
    have h := minL_mem r (if x < m then x else m)
    unfold minL
    rcases List.mem_cons.mp h with h | h
    · rw [h]
      split
      · exact List.mem_cons_of_mem _ List.mem_cons_self
      · exact List.mem_cons_self
    · exact List.mem_cons_of_mem _ (List.mem_cons_of_mem _ h)
def rMaxA (K : PySem.W.Frag) : List V → Hp → VK → Prop := fun xs H Q => rMax K xs H Q ∨ ∃ i j, xs = [.int i, .int j] ∧ Q (.int (if j > i then j else i)) H
def rMinA (K : PySem.W.Frag) : List V → Hp → VK → Prop := fun xs H Q => rMin K xs H Q ∨ ∃ i j, xs = [.int i, .int j] ∧ Q (.int (if j < i then j else i)) H
theorem cr_maxA (hc : X.calm = true) : CallR X (.builtin "max") (rMaxA X.K) := (cr_max hc).or (call_max2 hc)
theorem cr_minA (hc : X.calm = true) : CallR X (.builtin "min") (rMinA X.K) := (cr_min hc).or (call_min2 hc)
theorem cl_max : Cl K (rMaxA K) fMax := by
  intro mg H F mu vs ds z Q m ra hz k
  unfold fMax at hz
  split at hz
  · rename_i ys
    split at hz
    · rename_i x r q
      injection hz with hz
      subst hz
      obtain ⟨v, rfl, rp⟩ := ra.one
      cases rp with
      | lst hf hs rb =>
      refine .inl ⟨_, x :: r, rfl, by rw [← rb.ints q]; exact SqL.of hs, Nat.succ_pos _, fun mm h1 h2 => ?_⟩
      have e : mm = maxL x r := by
        have a1 := h2 _ (maxL_mem r x)
        have a2 := maxL_le r x
        rcases List.mem_cons.mp h1 with e | e
        · rw [e] at a1 ⊢; omega
        · have := a2.2 mm e; omega
      subst e
      exact k _ H F (.refl m) (.int _)
    · cases hz
  · rename_i i j
    injection hz with hz
    subst hz
    obtain ⟨v, u, rfl, r1, r2⟩ := ra.two
    cases r1; cases r2
    exact .inr ⟨i, j, rfl, k _ H F (.refl m) (.int _)⟩
  · cases hz
theorem cl_min : Cl K (rMinA K) fMin := by
  intro mg H F mu vs ds z Q m ra hz k
  unfold fMin at hz
  split at hz
  · rename_i ys
    split at hz
    · rename_i x r q
      injection hz with hz
      subst hz
      obtain ⟨v, rfl, rp⟩ := ra.one
      cases rp with
      | lst hf hs rb =>
      refine .inl ⟨_, x :: r, rfl, by rw [← rb.ints q]; exact SqL.of hs, Nat.succ_pos _, fun mm h1 h2 => ?_⟩
      have e : mm = minL x r := by
        have a1 := h2 _ (minL_mem r x)
        have a2 := minL_le r x
        rcases List.mem_cons.mp h1 with e | e
        · rw [e] at a1 ⊢; omega
        · have := a2.2 mm e; omega
      subst e
      exact k _ H F (.refl m) (.int _)
    · cases hz
  · rename_i i j
    injection hz with hz
    subst hz
    obtain ⟨v, u, rfl, r1, r2⟩ := ra.two
    cases r1; cases r2
    exact .inr ⟨i, j, rfl, k _ H F (.refl m) (.int _)⟩
  · cases hz
theorem cl_tuple : Cl K (fun xs H Q => ∃ p ys, xs = [.ref p] ∧ ((SqL K H p ys ∧ ∀ l, H l = none → Q (.ref l) (upd H l (.tup ys))) ∨ (SqT K H p ys ∧ Q (.ref p) H))) fTuple := by
  intro mg H F mu vs ds z Q m ra hz k
  unfold fTuple at hz
  split at hz
  · rename_i ys
    injection hz with hz
    subst hz
    obtain ⟨v, rfl, rp⟩ := ra.one
    cases rp with
    | lst hf hs rb => exact ⟨_, _, rfl, .inl ⟨SqL.of hs, fun p hp => k _ _ _ (stp_new m hp) (rp_tup hp rb)⟩⟩
  · rename_i ys
    injection hz with hz
    subst hz
    obtain ⟨v, rfl, rp⟩ := ra.one
    cases rp with
    | tup hs rb => exact ⟨_, _, rfl, .inr ⟨hs, k _ H F (.refl m) (.tup hs rb)⟩⟩
  · cases hz
theorem cl_list : Cl K (fun xs H Q => ∃ p ys, xs = [.ref p] ∧ (SqL K H p ys ∨ SqT K H p ys) ∧ ∀ l, H l = none → Q (.ref l) (upd H l (.lst ys))) fList := by
  intro mg H F mu vs ds z Q m ra hz k
  unfold fList at hz
  split at hz
  · rename_i ys
    injection hz with hz
    subst hz
    obtain ⟨v, rfl, rp⟩ := ra.one
    cases rp with
    | lst hf hs rb => exact ⟨_, _, rfl, .inl (SqL.of hs), fun p hp => k _ _ _ (stp_newF m hp) (rp_lst hp rb)⟩
  · rename_i ys
    injection hz with hz
    subst hz
    obtain ⟨v, rfl, rp⟩ := ra.one
    cases rp with
    | tup hs rb => exact ⟨_, _, rfl, .inr hs, fun p hp => k _ _ _ (stp_newF m hp) (rp_lst hp rb)⟩
  · cases hz
theorem cl_divmod : Cl K (fun xs H Q => ∃ i j, xs = [.int i, .int j] ∧ CDiv i j ∧ ∀ p, H p = none → Q (.ref p) (upd H p (.tup [.int (i / j), .int (i % j)]))) fDivmod := by
  intro mg H F mu vs ds z Q m ra hz k
  unfold fDivmod at hz
  split at hz
  · rename_i i j
    split at hz
    · rename_i c
      injection hz with hz
      subst hz
      obtain ⟨v, u, rfl, r1, r2⟩ := ra.two
      cases r1; cases r2
      exact ⟨i, j, rfl, c, fun p hp => k _ _ _ (stp_new m hp) (rp_tup hp (.cons (.int _) (.cons (.int _) .nil)))⟩
    · cases hz
  · cases hz

/-! ### repr -/
theorem canLay_noDict : ∀ (d : D), d.canLay0 = true → d.hasDict = false := PyData.hasDict_of_canLay
mutual
theorem Rp.dpN : ∀ (d : D) (v : V), Rp K H F v d → d.hasDict = false → Dp K H v d
  | .none, _, h, _ => by cases h; exact .non
  | .bool b, _, h, _ => by cases h; exact .bl b
  | .int i, _, h, _ => by cases h; exact .int i
  | .str x, _, h, _ => by cases h; exact .str x
  | .tuple ds, _, h, l => by
    cases h with
    | tup hs ha => exact .tup hs (RpA.dpN ds _ ha (by simpa only [PyData.hasDict] using l))
  | .list ds, _, h, l => by
    cases h with
    | lst hf hs ha => exact .lst (SqL.of hs) (RpA.dpN ds _ ha (by simpa only [PyData.hasDict] using l))
  | .dict _, _, _, l => by simp only [PyData.hasDict] at l; cases l
theorem RpA.dpN : ∀ (ds : List D) (vs : List V), RpA K H F vs ds → PyData.hasDictAll ds = false → DpAll K H vs ds
  | [], _, h, _ => by cases h; exact .nil
  | d :: ds, _, h, l => by
    simp only [PyData.hasDictAll, Bool.or_eq_false_iff] at l
    cases h with
    | cons h1 h2 => exact .cons (Rp.dpN d _ h1 l.1) (RpA.dpN ds _ h2 l.2)
end
def rRepr (K : PySem.W.Frag) : List V → Hp → VK → Prop := fun xs H Q => ∃ (x : V) (d : D), xs = [x] ∧ Dp K H x d ∧ d.showable = true ∧ d.hasDict = false ∧ d.shown.length ≤ sizeLine ∧ d.depth ≤ 60 ∧ Q (.str d.shown) H
theorem cr_repr (hg : X.A.guards = some []) (hu : X.A.units + 64 < cLine) : CallR X (.builtin "repr") (rRepr X.K) := by
  intro pins s σ H xs us Q I r h
  obtain ⟨x, d, rfl, hd, sh, nd, hz, hdep, q⟩ := h
  obtain ⟨u, rfl, rx⟩ := vals1 r
  obtain ⟨as, rd⟩ := Dp.reads I d x u hd rx
  have fin : ∀ (h' : Heap) (t : Tok) (tk : Nat), (∀ b o, s.heap.get? b = some o → h'.get? b = some o) → EP X pins σ Q (.str d.shown t) { s with heap := h', toks := tk } := fun h' t tk kp =>
    ⟨.str d.shown, H, I.kept (t' := tk) kp, ⟨t, rfl⟩, q⟩
  have fin0 : ∀ (t : Tok) (tk : Nat), EP X pins σ Q (.str d.shown t) { s with toks := tk } := fun t tk => fin s.heap t tk fun _ _ e => e
  cases hd with
  | non =>
    cases rx
    exact PySem.P.repr_of_none (by have z := fin0 s.toks (s.toks + 1); simp only [PyData.shown] at z; exact z)
  | bl b =>
    cases rx
    exact PySem.P.repr_of_bool (by have z := fin0 s.toks (s.toks + 1); simp only [PyData.shown] at z; exact z)
  | int i =>
    obtain ⟨t, rfl⟩ := rx
    simp only [PyData.showable, decide_eq_true_eq] at sh
    exact PySem.P.repr_of_int sh (by have z := fin0 s.toks (s.toks + 1); simp only [PyData.shown] at z; exact z)
  | str y =>
    obtain ⟨t, rfl⟩ := rx
    have hz' : (reprText y).length ≤ sizeLine := by simpa only [PyData.shown] using hz
    exact PySem.P.repr_of_str (by have z := fin0 s.toks (s.toks + 1); simp only [PyData.shown] at z; exact z) hz'
  | lst hs ha =>
    cases rx
    exact repr_of_reads' rd sh (fun z => by rw [nd] at z; cases z) hg (by omega) (fun _ _ e => e) (fun h' t tk kp => fin h' t tk kp) hz
  | tup hs ha =>
    cases rx
    exact repr_of_reads' rd sh (fun z => by rw [nd] at z; cases z) hg (by omega) (fun _ _ e => e) (fun h' t tk kp => fin h' t tk kp) hz
theorem cl_repr : Cl K (rRepr K) fRepr := by
  intro mg H F mu vs ds z Q m ra hz k
  unfold fRepr at hz
  split at hz
  · rename_i d
    split at hz
    · rename_i c
      injection hz with hz
      subst hz
      simp only [showOk, Bool.and_eq_true, Bool.not_eq_true', decide_eq_true_eq] at c
      obtain ⟨v, rfl, rp⟩ := ra.one
      exact ⟨v, d, rfl, rp.dpN d v c.1.1.2, c.1.1.1, c.1.1.2, by rw [line_eq]; exact c.1.2, c.2, k _ H F (.refl m) (.str _)⟩
    · cases hz
  · cases hz

/-! ### isinstance(e, T), T one of Python's own classes -/
/-- the name of a datum's class -/
def tyD : D → String
  | .none => "NoneType"
  | .bool _ => "bool"
  | .int _ => "int"
  | .str _ => "str"
  | .tuple _ => "tuple"
  | .list _ => "list"
  | .dict [] => "dict"
  | .dict _ => "?"
theorem ty_of (d : D) (v : V) (r : Rp K H F v d) (h : tyD d ≠ "?") : TyX K H v (.type (tyD d)) := by
  cases r with
  | non => exact .base .non
  | bl b => exact .base (.bl b)
  | int i => exact .base (.int i)
  | str x => exact .base (.str x)
  | tup hs ra =>
    rcases hs with (hs | ⟨o, hs⟩) | ⟨o, its, n, hk, hc, _⟩
    · exact .base (.tup hs)
    · exact .fTuple hs
    · exact .kTuple hk hc
  | lst hf hs ra => exact .base (.lst hs)
  | dic hf hs => exact .base (.dK hs)
  | scr _ _ _ => exact absurd rfl h
  | scrK _ _ => exact absurd rfl h
def eIsi (T : String) (m : EM) : EM := fun g mu => (m g mu).bind fun d mu1 => if tyD d = "?" then .bad else match kitB (tyD d) T with
  | some b => .ok (.bool b) mu1
  | none => .bad
end
section
variable {X : Cx} {W : WX} {y : Str} {p p2 pos : Pos} {e : Expr} {m : EM} {T : String}
theorem de_isi (ha : DE X W e m) (hg : Gl X "isinstance") (hm : X.mg "isinstance" = none) (hg2 : Gl X y) (hm2 : X.mg y = none) (hv2 : bootBuiltins y = some (.type T)) (hn2 : y ≠ "__name__") (hd2 : (y == ("__debug__" : Str)) = false)
    (hs : starEach [e, .Name y p2] X.env = [(false, eval e X.env), (false, eval (.Name y p2) X.env)]) : DE X W (.Call (.Name "isinstance" p) [e, .Name y p2] [] pos) (eIsi T m) := by
  have e1 : starEach [.Name y p2] X.env = [(false, eval (.Name y p2) X.env)] := rfl
  have hpa : PA X [e, .Name y p2] (tCons (tD X.K X.mg W m) (tCons (tC (.ty T)) tNil)) := pa_cons ha (pa_cons (pe_bltn hg2 hm2 hv2 rfl hn2 hd2) pa_nil rfl) (by rw [hs, e1])
  refine PE_imp (pe_callB call_isi hg hm (by decide +kernel) hpa (by decide) (by decide) (by rw [hs, e1]) (by rw [e1]; rfl)) fun σ H Q ⟨H0, F0, mg, g, mu, F, rl, h⟩ => ?_
  refine tD_seq rl h (fun c p mu' hE => hE) fun d mu1 v H1 F1 st rp h1 => ?_
  split at h1
  · exact h1.elim
  · rename_i nq
    cases q : kitB (tyD d) T with
    | none => rw [q] at h1; exact h1.elim
    | some b =>
      rw [q] at h1
      refine ⟨v, .ty T, .type (tyD d), .type T, b, rfl, ?_, ty_of d v rp nq, kit_ty q, h1 _ H1 F1 st (.bl _)⟩
      first
        | exact .ty _
        | exact rfl
        | trivial
end
end Wf
/-! W5: statements. -/
namespace Wf
open PySem L2

/-- what a block comes to -/
inductive RS where
  | nx (g : Gm) (mu : Mu)
  | rt (d : D) (mu : Mu)
  | bk (g : Gm) (mu : Mu)
  | ct (g : Gm) (mu : Mu)
  | exc (c : Str) (p : Option (Str × D)) (g : Gm) (mu : Mu)
  | bad
abbrev SM := Gm → Mu → RS
structure Ps where
  nx : Gm → Mu → Prop
  rt : D → Mu → Prop
  bk : Gm → Mu → Prop
  ct : Gm → Mu → Prop
  ex : Str → Option (Str × D) → Gm → Mu → Prop
def RS.wp (r : RS) (P : Ps) : Prop := match r with
  | .nx g mu => P.nx g mu
  | .rt d mu => P.rt d mu
  | .bk g mu => P.bk g mu
  | .ct g mu => P.ct g mu
  | .exc c p g mu => P.ex c p g mu
  | .bad => False
def RS.seq (r : RS) (f : SM) : RS := match r with
  | .nx g mu => f g mu
  | r => r
/-- an expression's end within a block -/
def R.toS {α : Type} (r : R α) (g : Gm) (f : α → Mu → RS) : RS := match r with
  | .ok a mu => f a mu
  | .exc c p mu => .exc c p g mu
  | .bad => .bad
theorem RS.wp_seq {r : RS} {f : SM} {P : Ps} : (r.seq f).wp P ↔ r.wp { P with nx := fun g mu => (f g mu).wp P } := by
  cases r <;> exact Iff.rfl
theorem R.wp_toS {α : Type} {r : R α} {g : Gm} {f : α → Mu → RS} {P : Ps} : (r.toS g f).wp P ↔ r.wp (fun a mu => (f a mu).wp P) (fun c p mu => P.ex c p g mu) := by
  cases r <;> exact Iff.rfl
theorem RS.wp_mono {r : RS} {P P' : Ps} (h : r.wp P) (h1 : ∀ g mu, P.nx g mu → P'.nx g mu) (h2 : ∀ d mu, P.rt d mu → P'.rt d mu) (h3 : ∀ g mu, P.bk g mu → P'.bk g mu) (h4 : ∀ g mu, P.ct g mu → P'.ct g mu)
    (h5 : ∀ c p g mu, P.ex c p g mu → P'.ex c p g mu) : r.wp P' := by
  cases r with
  | nx g mu => exact h1 g mu h
  | rt d mu => exact h2 d mu h
  | bk g mu => exact h3 g mu h
  | ct g mu => exact h4 g mu h
  | exc c p g mu => exact h5 c p g mu h
  | bad => exact h

section
variable {K : PySem.W.Frag} {H0 H H' H'' : Hp} {F0 F F' F'' : Fz} {mg : Option Addr} {g g' : Gm} {mu mu' mu'' : Mu} {σ σ' : St}
theorem Ext.refl : Ext H F H F := ⟨fun _ h => h, fun _ _ _ h => h, fun _ _ h => h⟩
theorem Ext.trans (a : Ext H F H' F') (b : Ext H' F' H'' F'') : Ext H F H'' F'' :=
  ⟨fun x h => b.sub x (a.sub x h), fun x o hf h => b.keep x o (a.sub x hf) (a.keep x o hf h), fun x xs h => b.tup x xs (a.tup x xs h)⟩

/-- what stays of a walk when its names are gone -/
structure Fin (K : PySem.W.Frag) (H0 : Hp) (F0 : Fz) (mg : Option Addr) (mu : Mu) (H : Hp) (F : Fz) : Prop where
  f0 : ∀ a, F0 a → F a
  fnew : ∀ a, F a → F0 a ∨ H0 a = none
  ftr : ∀ a, F a → ∃ o, H a = some o
  frame : ∀ a o, H0 a = some o → mg ≠ some a → H a = some o
  mug : MuOk K mg H F mu
theorem Rel.fin (r : Rel K H0 F0 mg g mu σ H F) : Fin K H0 F0 mg mu H F := ⟨r.f0, r.fnew, r.ftr, r.frame, r.mug⟩

/-- a datum is stored -/
theorem Rel.setVal (r : Rel K H0 F0 mg g mu σ H F) {i : Nat} {v : V} {d : D} (rp : Rp K H F v d) : Rel K H0 F0 mg (g.set i (.val d)) mu (σ.set i (some v)) H F := by
  refine ⟨by simpa using r.len, fun j s o h1 h2 => ?_, fun j k ds es a h1 h2 h3 h4 => ?_, fun j ds a h1 h2 => ?_, r.f0, r.fnew, r.ftr, r.frame, r.mug, r.mu0⟩
  · by_cases e : i = j
    · subst e
      have hi : i < g.length := by
        have := (List.getElem?_eq_some_iff.mp h1).1
        simpa using this
      rw [List.getElem?_set_self hi] at h1
      rw [List.getElem?_set_self (by rw [← r.len]; exact hi)] at h2
      cases h1
      cases h2
      exact ⟨v, rfl, rp⟩
    · rw [List.getElem?_set_ne e] at h1 h2
      exact r.slot j s o h1 h2
  · have ne : ∀ {k : Nat} {es : List D}, (g.set i (.val d))[k]? = some (.own es) → i ≠ k := fun {k es} h e => by
      subst e
      have hi : i < g.length := by
        have := (List.getElem?_eq_some_iff.mp h).1
        simpa using this
      rw [List.getElem?_set_self hi] at h; cases h
    have n1 := ne h1
    have n2 := ne h2
    rw [List.getElem?_set_ne n1] at h1 h3
    rw [List.getElem?_set_ne n2] at h2 h4
    exact r.inj j k ds es a h1 h2 h3 h4
  · by_cases e : i = j
    · subst e
      have hi : i < g.length := by
        have := (List.getElem?_eq_some_iff.mp h1).1
        simpa using this
      rw [List.getElem?_set_self hi] at h1; cases h1
    · rw [List.getElem?_set_ne e] at h1 h2
      exact r.owf j ds a h1 h2
/-- a new list that the walk keeps for itself -/
theorem Rel.setOwn (r : Rel K H0 F0 mg g mu σ H F) {i : Nat} {p : Addr} {vs : List V} {ds : List D} (hp : H p = none) (ra : RpA K H F vs ds) :
    Rel K H0 F0 mg (g.set i (.own ds)) mu (σ.set i (some (.ref p))) (upd H p (.lst vs)) F := by
  have nF : ¬ F p := fun z => by
    obtain ⟨o, q⟩ := r.ftr p z
    rw [hp] at q; cases q
  have nm : mg ≠ some p := fun e => by
    obtain ⟨vs, q⟩ := (r.nf p e).2
    rw [hp] at q; cases q
  have h0 : H0 p = none := by
    cases e : H0 p with
    | none => rfl
    | some o =>
      rw [r.frame p o e nm] at hp; cases hp
  have r1 := r.step (stp_new (o := .lst vs) r.mug hp)
  have e1 : Ext H F (upd H p (.lst vs)) F := ext_new hp fun _ h => h
  have other : ∀ {j : Nat} {es : List D} {a : Addr}, g[j]? = some (.own es) → σ[j]? = some (some (.ref a)) → a ≠ p := fun {j es a} h1 h2 z => by
    obtain ⟨b, ws, q1, q2, _⟩ := r.slot j _ _ h1 h2
    injection q1 with q1
    injection q1 with q1
    subst q1
    rw [z, hp] at q2; cases q2
  refine ⟨by simpa using r.len, fun j s o h1 h2 => ?_, fun j k ds es a h1 h2 h3 h4 => ?_, fun j ds a h1 h2 => ?_, r1.f0, r1.fnew, r1.ftr, r1.frame, r1.mug, r1.mu0⟩
  · by_cases e : i = j
    · subst e
      have hi : i < g.length := by
        have := (List.getElem?_eq_some_iff.mp h1).1
        simpa using this
      rw [List.getElem?_set_self hi] at h1
      rw [List.getElem?_set_self (by rw [← r.len]; exact hi)] at h2
      cases h1
      cases h2
      exact ⟨p, vs, rfl, upd_same, nF, ra.ext e1 _ _⟩
    · rw [List.getElem?_set_ne e] at h1 h2
      exact r1.slot j s o h1 h2
  · by_cases ej : i = j
    · by_cases ek : i = k
      · rw [← ej, ← ek]
      · subst ej
        have hi : i < g.length := by
          have := (List.getElem?_eq_some_iff.mp h1).1
          simpa using this
        rw [List.getElem?_set_self (by rw [← r.len]; exact hi)] at h3
        rw [List.getElem?_set_ne ek] at h2 h4
        cases h3
        exact absurd rfl (other h2 h4)
    · by_cases ek : i = k
      · subst ek
        have hi : i < g.length := by
          have := (List.getElem?_eq_some_iff.mp h2).1
          simpa using this
        rw [List.getElem?_set_self (by rw [← r.len]; exact hi)] at h4
        rw [List.getElem?_set_ne ej] at h1 h3
        cases h4
        exact absurd rfl (other h1 h3)
      · rw [List.getElem?_set_ne ej] at h1 h3
        rw [List.getElem?_set_ne ek] at h2 h4
        exact r.inj j k ds es a h1 h2 h3 h4
  · by_cases e : i = j
    · subst e
      have hi : i < g.length := by
        have := (List.getElem?_eq_some_iff.mp h1).1
        simpa using this
      rw [List.getElem?_set_self (by rw [← r.len]; exact hi)] at h2
      cases h2
      exact h0
    · rw [List.getElem?_set_ne e] at h1 h2
      exact r.owf j ds a h1 h2

/-- a list that is not frozen is written: what a datum leans on stands -/
theorem ext_write {a : Addr} {vs ws : List V} (ha : H a = some (.lst vs)) (nf : ¬ F a) : Ext H F (upd H a (.lst ws)) F := by
  refine ⟨fun _ h => h, fun b o hb e => ?_, fun b xs h => ?_⟩
  · rw [upd_ne (fun z : b = a => nf (by rw [← z]; exact hb))]; exact e
  · rcases h with h | ⟨o, h⟩
    · exact .inl (by rw [upd_ne (fun z : b = a => by rw [z, ha] at h; cases h)]; exact h)
    · exact .inr ⟨o, by rw [upd_ne (fun z : b = a => by rw [z, ha] at h; cases h)]; exact h⟩
theorem exn_write {a b : Addr} {vs ws : List V} {c : Str} {p : Option (Str × D)} {dx : Option Addr} {o : Option V} (ha : H a = some (.lst vs)) (e1 : Ext H F (upd H a (.lst ws)) F) (q : SlOk K mg H F (.exn c p b dx) o) :
    SlOk K mg (upd H a (.lst ws)) F (.exn c p b dx) o := by
  obtain ⟨e2, q⟩ := q
  refine ⟨e2, ?_⟩
  cases p with
  | none => trivial
  | some fd =>
    obtain ⟨x, v, e3, p1, p2⟩ := q
    exact ⟨x, v, e3, by rw [upd_ne (fun z : x = a => by rw [z, ha] at p1; cases p1)]; exact p1, p2.ext e1 _ v⟩
/-- an own list is written -/
theorem Rel.wrOwn (r : Rel K H0 F0 mg g mu σ H F) {i : Nat} {a : Addr} {vs ws : List V} {ds es : List D} (h1 : g[i]? = some (.own ds)) (h2 : σ[i]? = some (some (.ref a))) (ha : H a = some (.lst vs))
    (ra : RpA K H F ws es) : Rel K H0 F0 mg (g.set i (.own es)) mu σ (upd H a (.lst ws)) F := by
  obtain ⟨b, us, q1, q2, nF, q3⟩ := r.slot i _ _ h1 h2
  injection q1 with q1
  injection q1 with q1
  subst q1
  have nm := r.ownNe h1 h2
  have h0 := r.owf i ds _ h1 h2
  have e1 : Ext H F (upd H a (.lst ws)) F := ext_write ha nF
  have hi : i < g.length := (List.getElem?_eq_some_iff.mp h1).1
  have back : ∀ {j : Nat} {es' : List D}, (g.set i (.own es))[j]? = some (.own es') → ∃ es2, g[j]? = some (.own es2) := fun {j es'} h => by
    by_cases e : i = j
    · subst e; exact ⟨_, h1⟩
    · rw [List.getElem?_set_ne e] at h; exact ⟨_, h⟩
  refine ⟨by simpa using r.len, fun j s o h3 h4 => ?_, fun j k ds1 es1 c h3 h4 h5 h6 => ?_, fun j ds1 c h3 h4 => ?_, r.f0, r.fnew, fun c hc => ?_, fun c o hc n => ?_, fun c hc => ?_, r.mu0⟩
  · by_cases e : i = j
    · subst e
      rw [List.getElem?_set_self hi] at h3
      rw [h2] at h4
      cases h3
      cases h4
      exact ⟨a, ws, rfl, upd_same, nF, ra.ext e1 _ _⟩
    · rw [List.getElem?_set_ne e] at h3
      have q := r.slot j s o h3 h4
      cases s with
      | no => trivial
      | val d =>
        obtain ⟨v, e2, q⟩ := q
        exact ⟨v, e2, q.ext e1 d v⟩
      | own ds2 =>
        obtain ⟨b, us, e2, p1, p2, p3⟩ := q
        subst e2
        have ne : b ≠ a := fun z => e (r.inj i j _ _ a h1 h3 h2 (z ▸ h4))
        exact ⟨b, us, rfl, by rw [upd_ne ne]; exact p1, p2, p3.ext e1 _ _⟩
      | mug => exact q
      | exn c p b dx => exact exn_write ha e1 q
  · obtain ⟨x1, y1⟩ := back h3
    obtain ⟨x2, y2⟩ := back h4
    exact r.inj j k _ _ c y1 y2 h5 h6
  · obtain ⟨x1, y1⟩ := back h3
    exact r.owf j _ c y1 h4
  · obtain ⟨o, q⟩ := r.ftr c hc
    exact ⟨o, e1.keep c o hc q⟩
  · rw [upd_ne (fun z : c = a => by rw [z, h0] at hc; cases hc)]
    exact r.frame c o hc n
  · obtain ⟨us, p1, p2, p3, p4⟩ := r.mug c hc
    exact ⟨us, by rw [upd_ne (fun z : c = a => nm (by rw [← z]; exact hc))]; exact p1, p2, p3, p4.ext e1 _ _⟩
/-- the drawn list is written -/
theorem Rel.wrMug (r : Rel K H0 F0 mg g mu σ H F) {a : Addr} {vs ws : List V} {mu' : Mu} (hm : mg = some a) (ha : H a = some (.lst vs)) (l : lfA mu' = true) (ra : RpA K H F ws mu') :
    Rel K H0 F0 mg g mu' σ (upd H a (.lst ws)) F := by
  obtain ⟨_, _, nF, _, _⟩ := r.mug a hm
  have e1 : Ext H F (upd H a (.lst ws)) F := ext_write ha nF
  refine ⟨r.len, fun j s o h3 h4 => ?_, r.inj, r.owf, r.f0, r.fnew, fun c hc => ?_, fun c o hc n => ?_, fun c hc => ?_, r.mu0⟩
  · have q := r.slot j s o h3 h4
    cases s with
    | no => trivial
    | val d =>
      obtain ⟨v, e2, q⟩ := q
      exact ⟨v, e2, q.ext e1 d v⟩
    | own ds2 =>
      obtain ⟨b, us, e2, p1, p2, p3⟩ := q
      subst e2
      have nm := r.ownNe h3 h4
      exact ⟨b, us, rfl, by rw [upd_ne (fun z : b = a => nm (by rw [z]; exact hm))]; exact p1, p2, p3.ext e1 _ _⟩
    | mug => exact q
    | exn c p b dx => exact exn_write ha e1 q
  · obtain ⟨o, q⟩ := r.ftr c hc
    exact ⟨o, e1.keep c o hc q⟩
  · rw [upd_ne (fun z : c = a => n (by rw [z]; exact hm))]
    exact r.frame c o hc n
  · rw [hm] at hc
    injection hc with hc
    subst hc
    exact ⟨ws, upd_same, nF, l, ra.ext e1 _ _⟩
/-- an own list is given out for good: it is frozen -/
theorem Rel.freeze (r : Rel K H0 F0 mg g mu σ H F) {i : Nat} {ds : List D} (h1 : g[i]? = some (.own ds)) :
    ∃ F', Ext H F H F' ∧ Rel K H0 F0 mg (g.set i (.val (.list ds))) mu σ H F' := by
  have hi : i < g.length := (List.getElem?_eq_some_iff.mp h1).1
  obtain ⟨a, us, q1, q2, nF, q3⟩ := r.slot i _ _ h1 (List.getElem?_eq_getElem (by rw [← r.len]; exact hi))
  have h2 : σ[i]? = some (some (.ref a)) := by rw [List.getElem?_eq_getElem (by rw [← r.len]; exact hi), q1]
  have nm := r.ownNe h1 h2
  have h0 := r.owf i ds _ h1 h2
  have e1 : Ext H F H (fun b => F b ∨ b = a) := ⟨fun _ h => .inl h, fun _ _ _ h => h, fun _ _ h => h⟩
  refine ⟨_, e1, ⟨by simpa using r.len, fun j s o h3 h4 => ?_, fun j k ds1 es1 c h3 h4 h5 h6 => ?_, fun j ds1 c h3 h4 => ?_, fun c hc => .inl (r.f0 c hc), fun c hc => ?_, fun c hc => ?_, r.frame, fun c hc => ?_, r.mu0⟩⟩
  · by_cases e : i = j
    · subst e
      rw [List.getElem?_set_self hi] at h3
      rw [h2] at h4
      cases h3
      cases h4
      exact ⟨.ref a, rfl, .lst (.inr rfl) q2 (q3.ext e1 _ _)⟩
    · rw [List.getElem?_set_ne e] at h3
      have q := r.slot j s o h3 h4
      cases s with
      | no => trivial
      | val d =>
        obtain ⟨v, e2, q⟩ := q
        exact ⟨v, e2, q.ext e1 d v⟩
      | own ds2 =>
        obtain ⟨b, us, e2, p1, p2, p3⟩ := q
        subst e2
        have ne : b ≠ a := fun z => e (r.inj i j _ _ a h1 h3 h2 (z ▸ h4))
        refine ⟨b, us, rfl, p1, fun z => ?_, p3.ext e1 _ _⟩
        rcases z with z | z
        · exact p2 z
        · exact ne z
      | mug => exact q
      | exn c p b dx =>
        obtain ⟨e2, q⟩ := q
        refine ⟨e2, ?_⟩
        cases p with
        | none => trivial
        | some fd =>
          obtain ⟨x, v, e3, p1, p2⟩ := q
          exact ⟨x, v, e3, p1, p2.ext e1 _ v⟩
  · have ne : ∀ {k : Nat} {es : List D}, (g.set i (.val (.list ds)))[k]? = some (.own es) → i ≠ k := fun {k es} h e => by
      subst e
      rw [List.getElem?_set_self hi] at h; cases h
    rw [List.getElem?_set_ne (ne h3)] at h3
    rw [List.getElem?_set_ne (ne h4)] at h4
    exact r.inj j k _ _ c h3 h4 h5 h6
  · have ne : i ≠ j := fun e => by
      subst e
      rw [List.getElem?_set_self hi] at h3; cases h3
    rw [List.getElem?_set_ne ne] at h3
    exact r.owf j _ c h3 h4
  · rcases hc with hc | hc
    · exact r.fnew c hc
    · exact .inr (hc ▸ h0)
  · rcases hc with hc | hc
    · exact r.ftr c hc
    · exact ⟨_, hc ▸ q2⟩
  · obtain ⟨us, p1, p2, p3, p4⟩ := r.mug c hc
    refine ⟨us, p1, fun z => ?_, p3, p4.ext e1 _ _⟩
    rcases z with z | z
    · exact p2 z
    · exact nm (z ▸ hc)
end

/-! ### the reading of a block -/
def psOf (K : PySem.W.Frag) (mc : Str → Option Value) (W : WX) (H0 : Hp) (F0 : Fz) (mg : Option Addr) (H : Hp) (F : Fz) (Dn : Ends) : Ps where
  nx := fun g mu => ∀ σ' H' F', Ext H F H' F' → Rel K H0 F0 mg g mu σ' H' F' → Dn.nx σ' H'
  rt := fun d mu => ∀ v H' F', Ext H F H' F' → Fin K H0 F0 mg mu H' F' → Rp K H' F' v d → Dn.rt v H'
  bk := fun g mu => ∀ σ' H' F', Ext H F H' F' → Rel K H0 F0 mg g mu σ' H' F' → Dn.bk σ' H'
  ct := fun g mu => ∀ σ' H' F', Ext H F H' F' → Rel K H0 F0 mg g mu σ' H' F' → Dn.ct σ' H'
  ex := fun c p g mu => ∀ σ' H' F' cls dx, Ext H F H' F' → Rel K H0 F0 mg g mu σ' H' F' → ExcIs K mc H' F' c p cls dx → W cls dx σ' H'
def tS (K : PySem.W.Frag) (mc : Str → Option Value) (W : WX) (m : SM) : TS := fun Dn σ H => ∃ H0 F0 mg g mu F, Rel K H0 F0 mg g mu σ H F ∧ (m g mu).wp (psOf K mc W H0 F0 mg H F Dn)
abbrev DS (X : Cx) (W : WX) (st : Stmt) (m : SM) : Prop := PS X st (tS X.K X.mg W m)
abbrev DSs (X : Cx) (W : WX) (st : List Stmt) (m : SM) : Prop := PSs X st (tS X.K X.mg W m)
theorem PS_imp {X : Cx} {e : Stmt} {t t' : TS} (h : PS X e t) (i : ∀ Dn σ H, t' Dn σ H → t Dn σ H) : PS X e t' := ⟨fun pins s σ H Q I q => h.run pins s σ H Q I (i Q σ H q)⟩
theorem PSs_imp {X : Cx} {e : List Stmt} {t t' : TS} (h : PSs X e t) (i : ∀ Dn σ H, t' Dn σ H → t Dn σ H) : PSs X e t' := ⟨fun pins s σ H Q I q => h.run pins s σ H Q I (i Q σ H q)⟩
section
variable {K : PySem.W.Frag} {mc : Str → Option Value} {W : WX} {H0 H H1 : Hp} {F0 F F1 : Fz} {mg : Option Addr} {g : Gm} {mu : Mu} {σ : St} {Dn : Ends}
theorem psOf_ext (e : Ext H F H1 F1) {r : RS} (h : r.wp (psOf K mc W H0 F0 mg H F Dn)) : r.wp (psOf K mc W H0 F0 mg H1 F1 Dn) :=
  RS.wp_mono h (fun _ _ k σ' H' F' x => k σ' H' F' (e.trans x)) (fun _ _ k v H' F' x => k v H' F' (e.trans x)) (fun _ _ k σ' H' F' x => k σ' H' F' (e.trans x)) (fun _ _ k σ' H' F' x => k σ' H' F' (e.trans x))
    (fun _ _ _ _ k σ' H' F' cls dx x => k σ' H' F' cls dx (e.trans x))
/-- an expression, then the rest of a statement -/
theorem tD_S {m : EM} {f : D → Mu → RS} {QV : VK} (r : Rel K H0 F0 mg g mu σ H F) (h : ((m g mu).toS g f).wp (psOf K mc W H0 F0 mg H F Dn))
    (k : ∀ d mu1 v H1 F1, Ext H F H1 F1 → Rel K H0 F0 mg g mu1 σ H1 F1 → Stp K mg H F mu1 H1 F1 → Rp K H1 F1 v d → (f d mu1).wp (psOf K mc W H0 F0 mg H1 F1 Dn) → QV v H1) : tD K mc W m σ H QV :=
  ⟨H0, F0, mg, g, mu, F, r, R.wp_mono (R.wp_toS.mp h) (fun d mu1 hq v H1 F1 st rp => k d mu1 v H1 F1 (r.ext st) (r.step st) st rp (psOf_ext (r.ext st) hq))
    fun c p mu' hE H' F' cls dx st x => hE σ H' F' cls dx (r.ext st) (r.step st) x⟩
theorem tDT_S {m : TM} {f : Bool → Mu → RS} {QV : Bool → Hp → Prop} (r : Rel K H0 F0 mg g mu σ H F) (h : ((m g mu).toS g f).wp (psOf K mc W H0 F0 mg H F Dn))
    (k : ∀ d mu1 H1 F1, Ext H F H1 F1 → Rel K H0 F0 mg g mu1 σ H1 F1 → Stp K mg H F mu1 H1 F1 → (f d mu1).wp (psOf K mc W H0 F0 mg H1 F1 Dn) → QV d H1) : tDT K mc W m σ H QV :=
  ⟨H0, F0, mg, g, mu, F, r, R.wp_mono (R.wp_toS.mp h) (fun d mu1 hq H1 F1 st => k d mu1 H1 F1 (r.ext st) (r.step st) st (psOf_ext (r.ext st) hq))
    fun c p mu' hE H' F' cls dx st x => hE σ H' F' cls dx (r.ext st) (r.step st) x⟩
theorem tDA_S {m : AM} {f : List D → Mu → RS} {QV : List V → Hp → Prop} (r : Rel K H0 F0 mg g mu σ H F) (h : ((m g mu).toS g f).wp (psOf K mc W H0 F0 mg H F Dn))
    (k : ∀ d mu1 v H1 F1, Ext H F H1 F1 → Rel K H0 F0 mg g mu1 σ H1 F1 → Stp K mg H F mu1 H1 F1 → RpA K H1 F1 v d → (f d mu1).wp (psOf K mc W H0 F0 mg H1 F1 Dn) → QV v H1) : tDA K mc W m σ H QV :=
  ⟨H0, F0, mg, g, mu, F, r, R.wp_mono (R.wp_toS.mp h) (fun d mu1 hq v H1 F1 st rp => k d mu1 v H1 F1 (r.ext st) (r.step st) st rp (psOf_ext (r.ext st) hq))
    fun c p mu' hE H' F' cls dx st x => hE σ H' F' cls dx (r.ext st) (r.step st) x⟩
end
end Wf
/-! W6: the statements' rules. -/
namespace Wf
open PySem L2

def setSl (g : Gm) (i : Nat) (s : Sl) : Option Gm := match g[i]? with
  | some .mug => none
  | some _ => some (g.set i s)
  | none => none
theorem setSl_some {g g' : Gm} {i : Nat} {s : Sl} (h : setSl g i s = some g') : g' = g.set i s := by
  unfold setSl at h
  split at h
  · cases h
  · injection h with h; exact h.symm
  · cases h
def sNx (o : Option Gm) (mu : Mu) : RS := match o with
  | some g => .nx g mu
  | none => .bad
def sRet (m : EM) : SM := fun g mu => (m g mu).toS g fun d mu1 => .rt d mu1
def sRetN : SM := fun _ mu => .rt .none mu
def sPass : SM := fun g mu => .nx g mu
def sBreak : SM := fun g mu => .bk g mu
def sCont : SM := fun g mu => .ct g mu
def sSet (i : Nat) (m : EM) : SM := fun g mu => (m g mu).toS g fun d mu1 => sNx (setSl g i (.val d)) mu1
/-- x = [..], a list that the block goes on writing -/
def sOwn (i : Nat) (m : AM) : SM := fun g mu => (m g mu).toS g fun ds mu1 => if ds.length ≤ lineN then sNx (setSl g i (.own ds)) mu1 else .bad
def sDrop (m : EM) : SM := fun g mu => (m g mu).toS g fun _ mu1 => .nx g mu1
def sIf (mt : TM) (a b : SM) : SM := fun g mu => (mt g mu).toS g fun k mu1 => if k = true then a g mu1 else b g mu1
def sSeq (a b : SM) : SM := fun g mu => (a g mu).seq b
def sApp (i : Nat) (m : EM) : SM := fun g mu => match g[i]? with
  | some (.own ds) => (m g mu).toS g fun d mu1 => if ds.length < lineN then .nx (g.set i (.own (ds ++ [d]))) mu1 else .bad
  | _ => .bad
def sPop (i : Nat) : SM := fun g mu => match g[i]? with
  | some (.own ds) => if ds = [] then .bad else .nx (g.set i (.own ds.dropLast)) mu
  | _ => .bad
/-- from here on the list at i is given out -/
def sFz (i : Nat) (m : SM) : SM := fun g mu => match g[i]? with
  | some (.own ds) => m (g.set i (.val (.list ds))) mu
  | _ => .bad
/-- within an expression the list at i is looked at -/
def lend (g : Gm) (i : Nat) : Gm := match g[i]? with
  | some (.own ds) => g.set i (.val (.list ds))
  | _ => g
def eBor (i : Nat) (m : EM) : EM := fun g mu => match m (lend g i) mu with
  | .ok d mu1 => if lf d = true then .ok d mu1 else .bad
  | _ => .bad
def mBor (i : Nat) (m : TM) : TM := fun g mu => match m (lend g i) mu with
  | .ok d mu1 => .ok d mu1
  | _ => .bad

section
variable {K : PySem.W.Frag} {H0 H : Hp} {F0 F : Fz} {mg : Option Addr} {g g' : Gm} {mu : Mu} {σ : St} {Dn : Ends} {mc : Str → Option Value} {W : WX}
theorem Rel.some_of (r : Rel K H0 F0 mg g mu σ H F) {i : Nat} {s : Sl} (h : g[i]? = some s) : ∃ o, σ[i]? = some o := by
  have hi := (List.getElem?_eq_some_iff.mp h).1
  exact ⟨_, List.getElem?_eq_getElem (by rw [← r.len]; exact hi)⟩
theorem Rel.own_at (r : Rel K H0 F0 mg g mu σ H F) {i : Nat} {ds : List D} (h : g[i]? = some (.own ds)) : ∃ a vs, σ[i]? = some (some (.ref a)) ∧ H a = some (.lst vs) ∧ ¬ F a ∧ RpA K H F vs ds := by
  obtain ⟨o, h2⟩ := r.some_of h
  obtain ⟨a, vs, e, q⟩ := r.slot i _ _ h h2
  subst e
  exact ⟨a, vs, h2, q⟩
theorem Rel.lend (r : Rel K H0 F0 mg g mu σ H F) (i : Nat) : ∃ F', Ext H F H F' ∧ Rel K H0 F0 mg (Wf.lend g i) mu σ H F' := by
  unfold Wf.lend
  split
  · rename_i ds e
    exact r.freeze e
  · exact ⟨F, .refl, r⟩
end

section
variable {X : Cx} {W : WX} {e c : Expr} {m : EM} {am : AM} {mt : TM} {sa sb : SM} {st : Stmt} {sts rest : List Stmt} {pos pos' : Pos} {i : Nat} {x : Str}
theorem ds_pass : DS X W (.Pass pos) sPass := PS_imp ps_pass fun Dn σ H ⟨H0, F0, mg, g, mu, F, r, h⟩ => h σ H F .refl r
theorem ds_break : DS X W (.Break pos) sBreak := PS_imp ps_break fun Dn σ H ⟨H0, F0, mg, g, mu, F, r, h⟩ => h σ H F .refl r
theorem ds_cont : DS X W (.Continue pos) sCont := PS_imp ps_continue fun Dn σ H ⟨H0, F0, mg, g, mu, F, r, h⟩ => h σ H F .refl r
theorem dss_nil : DSs X W [] sPass := PSs_imp pss_nil fun Dn σ H ⟨H0, F0, mg, g, mu, F, r, h⟩ => h σ H F .refl r
theorem dss_one (h : DS X W st sa) : DSs X W [st] sa := pss_one h
theorem dss_cons (h1 : DS X W st sa) (h2 : DSs X W rest sb) : DSs X W (st :: rest) (sSeq sa sb) := by
  refine PSs_imp (pss_cons h1 h2) fun Dn σ H ⟨H0, F0, mg, g, mu, F, r, h⟩ => ?_
  have h := RS.wp_seq.mp h
  exact ⟨H0, F0, mg, g, mu, F, r, RS.wp_mono h (fun g1 mu1 k σ' H' F' x r' => ⟨H0, F0, mg, g1, mu1, F', r', psOf_ext x k⟩) (fun _ _ k => k) (fun _ _ k => k) (fun _ _ k => k) (fun _ _ _ _ k => k)⟩
theorem ds_ret (he : DE X W e m) : DS X W (.Return (some e) pos) (sRet m) := by
  refine PS_imp (ps_ret he) fun Dn σ H ⟨H0, F0, mg, g, mu, F, r, h⟩ => ?_
  exact tD_S r h fun d mu1 v H1 F1 x r1 st rp k => k v H1 F1 .refl r1.fin rp
theorem ds_retN : DS X W (.Return none pos) sRetN := PS_imp ps_retN fun Dn σ H ⟨H0, F0, mg, g, mu, F, r, h⟩ => h .non H F .refl r.fin .non
theorem ds_set (hN : X.N.Nodup) (hi : X.N[i]? = some x) (hx : Loc X.env.scope x) (he : DE X W e m) (hs : swapsWith e (some (.Name x pos')) pos.line X.env = pure false) (hf : X.fn x = true ∨ X.env.scope.names.lookup x = some .local) :
    DS X W (.Assign [.Name x pos'] e pos) (sSet i m) := by
  refine PS_imp (ps_set hN hi hx he hs hf) fun Dn σ H ⟨H0, F0, mg, g, mu, F, r, h⟩ => ?_
  refine tD_S r h fun d mu1 v H1 F1 ex r1 st rp k => ?_
  cases q : setSl g i (.val d) with
  | none => rw [q] at k; exact k.elim
  | some g' =>
    rw [q] at k
    rw [setSl_some q] at k
    exact k _ H1 F1 .refl (r1.setVal rp)
theorem ds_own {es : List Expr} {p2 : Pos} (hN : X.N.Nodup) (hi : X.N[i]? = some x) (hx : Loc X.env.scope x) (he : DA X W es am) (hs : swapsWith (.List es p2) (some (.Name x pos')) pos.line X.env = pure false) (hf : X.fn x = true ∨ X.env.scope.names.lookup x = some .local) :
    DS X W (.Assign [.Name x pos'] (.List es p2) pos) (sOwn i am) := by
  refine PS_imp (ps_set hN hi hx (pe_lst he) hs hf) fun Dn σ H ⟨H0, F0, mg, g, mu, F, r, h⟩ => ?_
  refine tDA_S r h fun d mu1 v H1 F1 ex r1 st ra k => ?_
  split at k
  · rename_i c
    refine ⟨by rw [line_eq, ra.length]; exact c, fun p hp => ?_⟩
    cases q : setSl g i (.own d) with
    | none => rw [q] at k; exact k.elim
    | some g' =>
      rw [q] at k
      rw [setSl_some q] at k
      exact k _ _ _ (ext_new hp fun _ h => h) (r1.setOwn hp ra)
  · exact k.elim
theorem ds_drop (he : DE X W e m) (hs : swapsWith e none pos.line X.env = pure false) : DS X W (.Expr e pos) (sDrop m) := by
  refine PS_imp (ps_expr he hs) fun Dn σ H ⟨H0, F0, mg, g, mu, F, r, h⟩ => ?_
  exact tD_S r h fun d mu1 v H1 F1 ex r1 st rp k => k σ H1 F1 .refl r1
theorem ds_if (hc : DT X W c mt) (ha : DSs X W sts sa) (hb : DSs X W rest sb) : DS X W (.If c sts rest pos) (sIf mt sa sb) := by
  refine PS_imp (ps_if hc ha hb) fun Dn σ H ⟨H0, F0, mg, g, mu, F, r, h⟩ => ?_
  refine tDT_S r h fun d mu1 H1 F1 ex r1 st k => ?_
  cases d with
  | true =>
    simp only [if_true] at k ⊢
    exact ⟨H0, F0, mg, g, mu1, F1, r1, k⟩
  | false =>
    simp only [Bool.false_eq_true, if_false] at k ⊢
    exact ⟨H0, F0, mg, g, mu1, F1, r1, k⟩
theorem dss_fz (h : DSs X W sts sa) : DSs X W sts (sFz i sa) := by
  refine PSs_imp h fun Dn σ H ⟨H0, F0, mg, g, mu, F, r, h⟩ => ?_
  unfold sFz at h
  split at h
  · rename_i ds q
    obtain ⟨F', ex, r'⟩ := r.freeze q
    exact ⟨H0, F0, mg, _, mu, F', r', psOf_ext ex h⟩
  · exact h.elim
theorem de_bor (h : DE X W e m) : DE X W e (eBor i m) := by
  refine PE_imp h fun σ H Q ⟨H0, F0, mg, g, mu, F, r, h⟩ => ?_
  obtain ⟨F', ex, r'⟩ := r.lend i
  refine ⟨H0, F0, mg, _, mu, F', r', ?_⟩
  unfold eBor at h
  split at h
  · rename_i d mu1 q
    rw [q]
    split at h
    · rename_i l
      intro v H1 F1 st rp
      refine h v H1 F ⟨st.mon, fun _ z => z, fun _ z => .inl z, fun a e => ?_⟩ (rp.free d v l)
      obtain ⟨vs, q1, q2, q3, q4⟩ := st.mug a e
      exact ⟨vs, q1, fun z => q2 (st.sub a (ex.sub a z)), q3, q4.free mu1 vs q3⟩
    · exact h.elim
  · exact h.elim
theorem dt_bor (h : DT X W e mt) : DT X W e (mBor i mt) := by
  refine PT_imp h fun σ H Q ⟨H0, F0, mg, g, mu, F, r, h⟩ => ?_
  obtain ⟨F', ex, r'⟩ := r.lend i
  refine ⟨H0, F0, mg, _, mu, F', r', ?_⟩
  unfold mBor at h
  split at h
  · rename_i d mu1 q
    rw [q]
    intro H1 F1 st
    refine h H1 F ⟨st.mon, fun _ z => z, fun _ z => .inl z, fun a e => ?_⟩
    obtain ⟨vs, q1, q2, q3, q4⟩ := st.mug a e
    exact ⟨vs, q1, fun z => q2 (st.sub a (ex.sub a z)), q3, q4.free mu1 vs q3⟩
  · exact h.elim

/-! ### own lists grow and shrink -/
theorem few1 {p3 : Pos} (hst : starEach [e] X.env = [(false, eval e X.env)]) : ((backTo p3 (starEach [e] X.env)).all (fun x => !x.1) && (backToKw p3 (keywordEach [] X.env)).all (fun x => x.1.isSome)
      && decide (([e] : List Expr).length + ([] : List Keyword).length + (if ([] : List Keyword).isEmpty then 0 else 1) < 30)) = true := by rw [hst]; rfl
theorem ds_app {p1 p2 p3 : Pos} (hN : X.N[i]? = some x) (hv : Vis X.env.scope x) (hd : (x == ("__debug__" : Str)) = false) (hcd : (x == ("__classdict__" : Str)) = false) (he : DE X W e m)
    (hst : starEach [e] X.env = [(false, eval e X.env)]) (hl : (p2.endLine == p3.line) = true) (hs : swapsWith (.Call (.Attribute (.Name x p1) "append" p2) [e] [] p3) none pos.line X.env = pure false) :
    DS X W (.Expr (.Call (.Attribute (.Name x p1) "append" p2) [e] [] p3) pos) (sApp i m) := by
  have hst' : starEach [e] X.env = (false, eval e X.env) :: starEach [] X.env := hst
  refine PS_imp (ps_expr (pe_bm PySem.F.plainAttrs_list PySem.F.slot_list_append PySem.F.type_list_append mt_append (pe_var hN hv hd hcd) (pa_cons he pa_nil hst') rfl (few1 hst) hl hst' rfl) hs) fun Dn σ H ⟨H0, F0, mg, g, mu, F, r, h⟩ => ?_
  unfold sApp at h
  split at h
  · rename_i ds q
    obtain ⟨a, vs, hσ, ha, nF, ra⟩ := r.own_at q
    refine ⟨_, hσ, .inl ⟨rfl, _, SqL.of ha⟩, ?_⟩
    refine tD_S r h fun d mu1 v H1 F1 ex r1 st rp k => ?_
    obtain ⟨a', vs', hσ', ha', nF', ra'⟩ := r1.own_at q
    rw [hσ] at hσ'
    cases hσ'
    split at k
    · rename_i c
      refine ⟨a, vs', v, rfl, rfl, ha', by rw [line_eq, ra'.length]; exact c, ?_⟩
      exact k σ _ F1 (ext_write ha' nF') (r1.wrOwn q hσ ha' (ra'.app (.cons rp .nil)))
    · exact k.elim
  · exact h.elim
theorem RpA.dropLast {K : PySem.W.Frag} {H : Hp} {F : Fz} : ∀ {vs : List V} {ds : List D}, RpA K H F vs ds → RpA K H F vs.dropLast ds.dropLast
  | _, [], .nil => .nil
  | _, [_], .cons _ .nil => .nil
  | _, _ :: _ :: _, .cons h1 (.cons h2 h3) => by
    rw [List.dropLast_cons_cons, List.dropLast_cons_cons]
    exact .cons h1 (RpA.dropLast (.cons h2 h3))
theorem ds_pop {p1 p2 p3 : Pos} (hN : X.N[i]? = some x) (hv : Vis X.env.scope x) (hd : (x == ("__debug__" : Str)) = false) (hcd : (x == ("__classdict__" : Str)) = false) (hl : (p2.endLine == p3.line) = true)
    (hs : swapsWith (.Call (.Attribute (.Name x p1) "pop" p2) [] [] p3) none pos.line X.env = pure false) :
    DS X W (.Expr (.Call (.Attribute (.Name x p1) "pop" p2) [] [] p3) pos) (sPop i) := by
  refine PS_imp (ps_expr (pe_bm0 PySem.F.plainAttrs_list PySem.F.slot_list_pop PySem.F.type_list_pop mt_pop (pe_var hN hv hd hcd) rfl hl) hs) fun Dn σ H ⟨H0, F0, mg, g, mu, F, r, h⟩ => ?_
  unfold sPop at h
  split at h
  · rename_i ds q
    split at h
    · exact h.elim
    · rename_i ne
      obtain ⟨a, vs, hσ, ha, nF, ra⟩ := r.own_at q
      have hlen := ra.length
      have hpos : vs.length - 1 < vs.length := by
        have : 0 < ds.length := List.length_pos_iff.mpr ne
        omega
      refine ⟨_, hσ, .inl ⟨rfl, _, SqL.of ha⟩, a, vs, vs[vs.length - 1], rfl, rfl, ha, List.getElem?_eq_getElem hpos, ?_⟩
      exact h σ _ F (ext_write ha nF) (r.wrOwn q hσ ha ra.dropLast)
  · exact h.elim

/-! ### targets -/
abbrev GM := D → Gm → Mu → Option (Gm × Mu)
abbrev GsM := List D → Gm → Mu → Option (Gm × Mu)
/-- but for the slots ws all is as it was -/
def SameOut (ws : List Nat) (σ σ' : St) : Prop := σ'.length = σ.length ∧ ∀ j, j ∉ ws → σ'[j]? = σ[j]?
theorem SameOut.refl {ws : List Nat} (σ : St) : SameOut ws σ σ := ⟨rfl, fun _ _ => rfl⟩
theorem SameOut.trans {ws us : List Nat} {σ σ1 σ2 : St} (a : SameOut ws σ σ1) (b : SameOut us σ1 σ2) : SameOut (ws ++ us) σ σ2 :=
  ⟨b.1.trans a.1, fun j h => (b.2 j fun z => h (List.mem_append_right _ z)).trans (a.2 j fun z => h (List.mem_append_left _ z))⟩
def tG (K : PySem.W.Frag) (ws : List Nat) (gm : GM) : TG := fun v σ H Q => ∃ H0 F0 mg g mu F d, Rel K H0 F0 mg g mu σ H F ∧ Rp K H F v d ∧
  match gm d g mu with
  | some (g', mu') => ∀ σ' H', SameOut ws σ σ' → Mon mg H H' → Rel K H0 F0 mg g' mu' σ' H' F → Q σ' H'
  | none => False
def tGs (K : PySem.W.Frag) (ws : List Nat) (gm : GsM) : TGs := fun vs σ H Q => ∃ H0 F0 mg g mu F ds, Rel K H0 F0 mg g mu σ H F ∧ RpA K H F vs ds ∧
  match gm ds g mu with
  | some (g', mu') => ∀ σ' H', SameOut ws σ σ' → Mon mg H H' → Rel K H0 F0 mg g' mu' σ' H' F → Q σ' H'
  | none => False
abbrev DG (X : Cx) (tg : Expr) (ws : List Nat) (gm : GM) : Prop := PG X tg (tG X.K ws gm)
abbrev DGs (X : Cx) (tg : List Expr) (ws : List Nat) (gm : GsM) : Prop := PGs X tg (tGs X.K ws gm)
theorem Rel.extM {K : PySem.W.Frag} {H0 H H' : Hp} {F0 F : Fz} {mg : Option Addr} {g : Gm} {mu : Mu} {σ : St} (r : Rel K H0 F0 mg g mu σ H F) (m : Mon mg H H') : Ext H F H' F := by
  refine ⟨fun _ h => h, fun a o hf h => m a o h fun e => (r.nf a e).1 hf, fun a xs h => ?_⟩
  rcases h with h | ⟨o, h⟩
  · refine .inl (m a _ h fun e => ?_)
    obtain ⟨vs, q⟩ := (r.nf a e).2
    rw [h] at q; cases q
  · refine .inr ⟨o, m a _ h fun e => ?_⟩
    obtain ⟨vs, q⟩ := (r.nf a e).2
    rw [h] at q; cases q
theorem PG_imp {X : Cx} {e : Expr} {t t' : TG} (h : PG X e t) (i : ∀ v σ H Q, t' v σ H Q → t v σ H Q) : PG X e t' := ⟨fun pins s σ H v u Q I r q => h.run pins s σ H v u Q I r (i v σ H Q q)⟩
theorem PGs_imp {X : Cx} {e : List Expr} {t t' : TGs} (h : PGs X e t) (i : ∀ v σ H Q, t' v σ H Q → t v σ H Q) : PGs X e t' := ⟨fun pins s σ H v u Q I r q => h.run pins s σ H v u Q I r (i v σ H Q q)⟩
def mName (i : Nat) : GM := fun d g mu => (setSl g i (.val d)).map fun g' => (g', mu)
def mNil : GsM := fun ds g mu => match ds with
  | [] => some (g, mu)
  | _ => none
def mCons (a : GM) (r : GsM) : GsM := fun ds g mu => match ds with
  | d :: ds => match a d g mu with
    | some (g1, mu1) => r ds g1 mu1
    | none => none
  | [] => none
def mTup (n : Nat) (gs : GsM) : GM := fun d g mu => match d with
  | .tuple ds => if ds.length = n then gs ds g mu else none
  | _ => none
/-- mug[k] = .. -/
def mMug (i k : Nat) : GM := fun d g mu => match g[i]? with
  | some .mug => if k < mu.length ∧ lf d = true then some (g, mu.set k d) else none
  | _ => none
theorem lfA_set : ∀ (k : Nat) (mu : Mu) (d : D), lfA mu = true → lf d = true → lfA (mu.set k d) = true
  | _, [], _, _, _ => by simp [lfA]
  | 0, a :: r, d, h, h2 => by
    simp only [lfA, Bool.and_eq_true] at h
    simp [lfA, h2, h.2]
  | k + 1, a :: r, d, h, h2 => by
    simp only [lfA, Bool.and_eq_true] at h
    simp [lfA, h.1, lfA_set k r d h.2 h2]
theorem dg_name (hN : X.N.Nodup) (hi : X.N[i]? = some x) (hx : Loc X.env.scope x) (hf : X.fn x = true ∨ X.env.scope.names.lookup x = some .local) : DG X (.Name x pos) [i] (mName i) := by
  refine PG_imp (pg_name hN hi hx hf) fun v σ H Q ⟨H0, F0, mg, g, mu, F, d, r, rp, h⟩ => ?_
  unfold mName at h
  cases q : setSl g i (.val d) with
  | none => rw [q] at h; exact h.elim
  | some g' =>
    rw [q] at h
    rw [setSl_some q] at h
    exact h _ H ⟨by simp, fun j hj => List.getElem?_set_ne (fun e => hj (by simp [e]))⟩ (Mon.refl H) (r.setVal rp)
theorem dgs_nil : DGs X [] [] mNil := by
  refine PGs_imp pgs_nil fun vs σ H Q ⟨H0, F0, mg, g, mu, F, ds, r, ra, h⟩ => ?_
  cases ds with
  | nil =>
    cases ra
    exact ⟨rfl, h σ H (SameOut.refl σ) (Mon.refl H) r⟩
  | cons _ _ => exact h.elim
theorem dgs_cons {es : List Expr} {a : GM} {rr : GsM} {ws us : List Nat} (h1 : DG X e ws a) (h2 : DGs X es us rr) (hs : (assignEach (e :: es) X.env).map (·.2) = assign e X.env :: (assignEach es X.env).map (·.2)) : DGs X (e :: es) (ws ++ us) (mCons a rr) := by
  refine PGs_imp (pgs_cons h1 h2 hs) fun vs σ H Q ⟨H0, F0, mg, g, mu, F, ds, r, ra, h⟩ => ?_
  cases ra with
  | nil => exact h.elim
  | @cons v vr d dr rp ra =>
    refine ⟨v, vr, rfl, H0, F0, mg, g, mu, F, d, r, rp, ?_⟩
    unfold mCons at h
    dsimp only at h
    cases q : a d g mu with
    | none => rw [q] at h; exact h
    | some y =>
      obtain ⟨g1, mu1⟩ := y
      rw [q] at h
      dsimp only at h ⊢
      intro σ1 H1 so mo r1
      refine ⟨H0, F0, mg, g1, mu1, F, dr, r1, ra.ext (r.extM mo) _ _, ?_⟩
      cases q2 : rr dr g1 mu1 with
      | none => rw [q2] at h; exact h
      | some y2 =>
        obtain ⟨g2, mu2⟩ := y2
        rw [q2] at h
        dsimp only at h ⊢
        exact fun σ2 H2 so2 mo2 r2 => h σ2 H2 (so.trans so2) (mo.trans mo2) r2
theorem dg_tup {es : List Expr} {k n : Nat} {gs : GsM} {ws : List Nat} (hc : X.calm = true) (h : DGs X es ws gs) (hn : (assignEach es X.env).length = n) (hst : (assignEach es X.env).findIdx? (·.1) = none) : DG X (.Tuple es k pos) ws (mTup n gs) := by
  refine PG_imp (pg_tup hc h hn hst) fun v σ H Q ⟨H0, F0, mg, g, mu, F, d, r, rp, h⟩ => ?_
  cases rp with
  | @tup _ _ ds' hs ra =>
    by_cases c : ds'.length = n
    · have e : mTup n gs (.tuple ds') g mu = gs ds' g mu := if_pos c
      rw [e] at h
      exact ⟨_, _, rfl, hs, by rw [ra.length]; exact c, H0, F0, mg, g, mu, F, ds', r, ra, h⟩
    · have e : mTup n gs (.tuple ds') g mu = none := if_neg c
      rw [e] at h
      exact h.elim
  | _ => exact h.elim
theorem dg_mug {kk : Nat} {j : Nat} {p1 p2 : Pos} (hN : X.N[i]? = some x) (hv : Vis X.env.scope x) (hd : (x == ("__debug__" : Str)) = false) (hcd : (x == ("__classdict__" : Str)) = false)
    (ha : ∀ v, assign (.Subscript (.Name x p1) (.Constant (.int (j : Nat)) kk p2) pos) X.env v = (do
      let ov ← holding [v] (eval (.Name x p1) X.env)
      let iv ← holding [v, ov] (eval (.Constant (.int (j : Nat)) kk p2) X.env)
      standAt pos
      holding [v, ov, iv] (setItem ov iv v)
      release [v, ov, iv] [])) : DG X (.Subscript (.Name x p1) (.Constant (.int (j : Nat)) kk p2) pos) [] (mMug i j) := by
  refine PG_imp (pg_sub (pe_var hN hv hd hcd) pe_int set_list ha) fun v σ H Q ⟨H0, F0, mg, g, mu, F, d, r, rp, h⟩ => ?_
  unfold mMug at h
  cases q : g[i]? with
  | none => rw [q] at h; exact h.elim
  | some s =>
    rw [q] at h
    cases s with
    | mug =>
      dsimp only at h
      split at h
      · rename_i g' mu' c
        split at c
        · rename_i c2
          injection c with c
          injection c with c3 c4
          subst c3
          subst c4
          obtain ⟨o, h2⟩ := r.some_of q
          obtain ⟨a, hm, e⟩ := r.slot i _ _ q h2
          subst e
          obtain ⟨vs, ha, nF, lm, ra⟩ := r.mug a hm
          refine ⟨_, h2, a, vs, (j : Nat), j, rfl, rfl, ha, ?_, ?_⟩
          · unfold ixN
            rw [if_pos (by omega), if_pos (by rw [ra.length]; exact_mod_cast c2.1)]
            simp
          · exact h σ _ (SameOut.refl σ) (fun b o e n => by rw [upd_ne (fun z : b = a => n (by rw [z]; exact hm))]; exact e) (r.wrMug hm ha (lfA_set _ _ _ lm c2.2) (ra.set rp _))
        · cases c
      · exact h.elim
    | _ => exact h.elim
end
end Wf
/-! W7: assignments to targets, loops. -/
namespace Wf
open PySem L2

def sAsg (m : EM) (gm : GM) : SM := fun g mu => (m g mu).toS g fun d mu1 => match gm d g mu1 with
  | some (g', mu') => .nx g' mu'
  | none => .bad
/-- a, b = e1, e2: stored from the right -/
def sPar (i j : Nat) (m : AM) : SM := fun g mu => (m g mu).toS g fun ds mu1 => match ds with
  | [d, e] => match setSl g i (.val d) with
    | some g1 => sNx (setSl g1 j (.val e)) mu1
    | none => .bad
  | _ => .bad
section
variable {X : Cx} {W : WX} {e tg : Expr} {m : EM} {am : AM} {gm : GM} {pos : Pos} {i j : Nat} {x y : Str}
theorem ds_asg {ws : List Nat} (he : DE X W e m) (hg : DG X tg ws gm) (hs : swapsWithSole [tg] e pos.line X.env = pure false) (hw : swappedStores [tg] e X.env = pure none) (h1 : (assignEach [tg] X.env).map (·.2) = [assign tg X.env]) :
    DS X W (.Assign [tg] e pos) (sAsg m gm) := by
  refine PS_imp (ps_asg he hg hs hw h1) fun Dn σ H ⟨H0, F0, mg, g, mu, F, r, h⟩ => ?_
  refine tD_S r h fun d mu1 v H1 F1 ex r1 st rp k => ?_
  refine ⟨H0, F0, mg, g, mu1, F1, d, r1, rp, ?_⟩
  cases q : gm d g mu1 with
  | none => rw [q] at k; exact k
  | some y =>
    obtain ⟨g2, mu2⟩ := y
    rw [q] at k
    exact fun σ' H' so mo r' => k σ' H' F1 (r1.extM mo) r'
theorem ds_par {a b : Expr} {px py pt pt2 : Pos} {kt k2 : Nat} (hc : X.calm = true) (hN : X.N.Nodup) (hi : X.N[i]? = some x) (hj : X.N[j]? = some y) (hij : i ≠ j) (hx : X.env.scope.names.lookup x = some .local)
    (hy : X.env.scope.names.lookup y = some .local) (ha : DA X W [a, b] am) (hw : swappedStores [.Tuple [.Name x px, .Name y py] kt pt] (.Tuple [a, b] k2 pt2) X.env = pure (some [x, y]))
    (hs : swapsWithSole [.Tuple [.Name x px, .Name y py] kt pt] (.Tuple [a, b] k2 pt2) pos.line X.env = pure false) :
    DS X W (.Assign [.Tuple [.Name x px, .Name y py] kt pt] (.Tuple [a, b] k2 pt2) pos) (sPar i j am) := by
  refine PS_imp (ps_par hc hN hi hj hij hx hy ha hw hs) fun Dn σ H ⟨H0, F0, mg, g, mu, F, r, h⟩ => ?_
  refine tDA_S r h fun ds mu1 vs H1 F1 ex r1 st ra k => ?_
  split at k
  · rename_i d e
    obtain ⟨v, u, rfl, rv, ru⟩ := ra.two
    refine ⟨v, u, rfl, ?_⟩
    cases q : setSl g i (.val d) with
    | none => rw [q] at k; exact k.elim
    | some g1 =>
      rw [q] at k
      dsimp only at k
      cases q2 : setSl g1 j (.val e) with
      | none => rw [q2] at k; exact k.elim
      | some g2 =>
        rw [q2] at k
        rw [setSl_some q2, setSl_some q] at k
        exact k _ H1 F1 .refl ((r1.setVal rv).setVal ru)
  · exact k.elim
end

/-! ### what a loop walks -/
abbrev IM := Gm → Mu → R (List D)
/-- the walk J gives the data ds, whatever happens to what is not frozen -/
structure ItD (K : PySem.W.Frag) (J : It) (H : Hp) (F : Fz) (ds : List D) : Prop where
  go : ∀ (i : Nat) H' F', i < ds.length → Ext H F H' F' → J.go i H'
  yld : ∀ (i : Nat) d x H' F' H2, ds[i]? = some d → Ext H F H' F' → J.yld i H' x H2 → Mon none H' H2 ∧ Rp K H2 F' x d
  stop : ∀ H' F', Ext H F H' F' → J.stop ds.length H'
def tI (K : PySem.W.Frag) (mc : Str → Option Value) (W : WX) (m : IM) : TI := fun σ H Q => ∃ H0 F0 mg g mu F, Rel K H0 F0 mg g mu σ H F ∧
  (m g mu).wp (fun ds mu' => ∀ J H' F', Stp K mg H F mu' H' F' → ItD K J H' F' ds → Q J H')
    (fun c p mu' => ∀ H' F' cls dx, Stp K mg H F mu' H' F' → ExcIs K mc H' F' c p cls dx → W cls dx σ H')
abbrev DI (X : Cx) (W : WX) (tg iter : Expr) (m : IM) : Prop := PI X tg iter (tI X.K X.mg W m)
theorem PI_imp {X : Cx} {tg e : Expr} {t t' : TI} (h : PI X tg e t) (i : ∀ σ H Q, t' σ H Q → t σ H Q) : PI X tg e t' := ⟨fun pins s σ H Q I q => h.run pins s σ H Q I (i σ H Q q)⟩

def iSeq (m : EM) : IM := fun g mu => (m g mu).bind fun d mu1 => match d with
  | .list ds => .ok ds mu1
  | .tuple ds => .ok ds mu1
  | _ => .bad
def iRange1 (m : AM) : IM := fun g mu => (m g mu).bind fun ds mu1 => match ds with
  | [.int n] => if -(2 ^ 62) ≤ n ∧ n < 2 ^ 62 then .ok ((List.range n.toNat).map fun (i : Nat) => PyData.int (i : Int)) mu1 else .bad
  | _ => .bad
def iRange2 (m : AM) : IM := fun g mu => (m g mu).bind fun ds mu1 => match ds with
  | [.int lo, .int hi] => if -(2 ^ 62) ≤ lo ∧ lo < 2 ^ 62 ∧ -(2 ^ 62) ≤ hi ∧ hi < 2 ^ 62 then .ok ((List.range (hi - lo).toNat).map fun (i : Nat) => PyData.int (lo + (i : Int))) mu1 else .bad
  | _ => .bad

section
variable {K : PySem.W.Frag} {H : Hp} {F : Fz} {a : Addr} {vs : List V} {ds : List D}
theorem itd_list (hf : F a) (h : H a = some (.lst vs)) (ra : RpA K H F vs ds) : ItD K (Itl K a) H F ds := by
  refine ⟨fun i H' F' hi ex => ?_, fun i d x H' F' H2 hd ex hy => ?_, fun H' F' ex => ?_⟩
  · obtain ⟨v, hv, _⟩ := ra.get (List.getElem?_eq_getElem hi)
    exact ⟨vs, v, SqL.of (ex.keep _ _ hf h), hv⟩
  · obtain ⟨e, k⟩ := hy
    subst e
    obtain ⟨v, hv, rp⟩ := ra.get hd
    have q := k vs (SqL.of (ex.keep _ _ hf h))
    rw [hv] at q
    cases q
    exact ⟨Mon.refl _, rp.ext ex d _⟩
  · exact ⟨vs, SqL.of (ex.keep _ _ hf h), by rw [ra.length]; exact Nat.le_refl _⟩
theorem itd_scr {o : Obj} (hf : F a) (h : H a = some (.frz o (.lst vs))) (ra : RpA K H F vs ds) : ItD K (Itl K a) H F ds := by
  have sq : ∀ {H' : Hp} {F' : Fz}, Ext H F H' F' → SqL K H' a vs := fun ex => .inl (.inr ⟨o, ex.keep _ _ hf h⟩)
  refine ⟨fun i H' F' hi ex => ?_, fun i d x H' F' H2 hd ex hy => ?_, fun H' F' ex => ?_⟩
  · obtain ⟨v, hv, _⟩ := ra.get (List.getElem?_eq_getElem hi)
    exact ⟨vs, v, sq ex, hv⟩
  · obtain ⟨e, k⟩ := hy
    subst e
    obtain ⟨v, hv, rp⟩ := ra.get hd
    have q := k vs (sq ex)
    rw [hv] at q
    cases q
    exact ⟨Mon.refl _, rp.ext ex d _⟩
  · exact ⟨vs, sq ex, by rw [ra.length]; exact Nat.le_refl _⟩
theorem itd_tup (h : SqT K H a vs) (ra : RpA K H F vs ds) : ItD K (Itt K a) H F ds := by
  refine ⟨fun i H' F' hi ex => ?_, fun i d x H' F' H2 hd ex hy => ?_, fun H' F' ex => ?_⟩
  · obtain ⟨v, hv, _⟩ := ra.get (List.getElem?_eq_getElem hi)
    exact ⟨vs, v, seqT_ext ex h, hv⟩
  · obtain ⟨e, k⟩ := hy
    subst e
    obtain ⟨v, hv, rp⟩ := ra.get hd
    have q := k vs (seqT_ext ex h)
    rw [hv] at q
    cases q
    exact ⟨Mon.refl _, rp.ext ex d _⟩
  · exact ⟨vs, seqT_ext ex h, by rw [ra.length]; exact Nat.le_refl _⟩
theorem itd_range {lo : Int} {n : Nat} : ItD K (Itr lo n) H F ((List.range n).map fun (i : Nat) => PyData.int (lo + (i : Int))) := by
  refine ⟨fun i H' F' hi ex => ?_, fun i d x H' F' H2 hd ex hy => ?_, fun H' F' ex => ?_⟩
  · show i < n
    simpa using hi
  · obtain ⟨e, e2⟩ := hy
    subst e
    subst e2
    rw [List.getElem?_map] at hd
    have hi : i < n := by
      by_cases c : i < n
      · exact c
      · rw [List.getElem?_eq_none (by simpa using c)] at hd; cases hd
    rw [List.getElem?_range hi] at hd
    cases hd
    exact ⟨Mon.refl _, .int _⟩
  · show n ≤ _
    simp
end
section
variable {X : Cx} {W : WX} {e tg iter : Expr} {m : EM} {am : AM} {im : IM} {gm : GM} {sb : SM} {body : List Stmt} {p pos : Pos}
/-- a list or a tuple is walked -/
def iSeqT (K : PySem.W.Frag) (te : TE) : TI := fun σ H Q => te σ H fun x H1 => (∃ a xs, x = .ref a ∧ SqL K H1 a xs ∧ Q (Itl K a) H1) ∨ ∃ a xs, x = .ref a ∧ SqT K H1 a xs ∧ Q (Itt K a) H1
theorem pi_seq {te : TE} (h : PE X e te) : PI X tg e (iSeqT X.K te) := by
  constructor
  intro pins s σ H Q I hq
  refine thn (h.run pins s σ H _ I hq) fun u s1 ⟨x, H1, I1, rx, hx⟩ => ?_
  have up : Inv X pins σ H1 { s1 with heap := s1.heap.push ({ cls := .type "list_iterator", data := .fields #[] } : Obj) } := I1.kept (t' := s1.toks) fun b o z => Heap.get?_push_of_some _ z
  rcases hx with ⟨a, xs, ex, hs, k⟩ | ⟨a, xs, ex, hs, k⟩
  · subst ex
    cases rx
    have hpi : PI X tg e (iList X.K fun _ H' Q' => H' = H1 ∧ Q' (.ref a) H1) → True := fun _ => trivial
    obtain ⟨us, ru, pl, hz⟩ := I1.list hs
    refine wpAny_pyIter_list pl.isList ?_
    exact ⟨s1.heap.objs.size, [s1.heap.objs.size], _, _, H1, rfl, I1.kept (t' := s1.toks) fun b o z => Heap.get?_push_of_some _ z, turn_list a _, ⟨_, Heap.get?_push_size _ rfl, rfl, rfl⟩,
      fun b hb => by
        obtain rfl : b = s1.heap.objs.size := by simpa using hb
        exact I1.fpOk (Nat.le_refl _) (I1.hok.fresh (Nat.le_refl _)), k⟩
  · subst ex
    cases rx
    obtain ⟨us, ru, pl, hz⟩ := I1.tuple hs
    refine wpAny_pyIter_tuple (show s1.heap.IsTuple a us.toArray from pl) ?_
    exact ⟨s1.heap.objs.size, [s1.heap.objs.size], _, _, H1, rfl, I1.kept (t' := s1.toks) fun b o z => Heap.get?_push_of_some _ z, turn_tuple a _, ⟨_, Heap.get?_push_size _ rfl, rfl, rfl⟩,
      fun b hb => by
        obtain rfl : b = s1.heap.objs.size := by simpa using hb
        exact I1.fpOk (Nat.le_refl _) (I1.hok.fresh (Nat.le_refl _)), k⟩
theorem di_seq (h : DE X W e m) : DI X W tg e (iSeq m) := by
  refine PI_imp (pi_seq h) fun σ H Q ⟨H0, F0, mg, g, mu, F, r, h⟩ => ?_
  refine tD_seq r h (fun c p mu' hE => hE) fun d mu1 v H1 F1 st rp k => ?_
  cases rp with
  | lst hf hs ra => exact .inl ⟨_, _, rfl, SqL.of hs, k _ H1 F1 st (itd_list hf hs ra)⟩
  | tup hs ra => exact .inr ⟨_, _, rfl, hs, k _ H1 F1 st (itd_tup hs ra)⟩
  | _ => exact k.elim
theorem di_range1 (hg : Gl X "range") (hm : X.mg "range" = none) (ha : DA X W [e] am) (hs : starEach [e] X.env = [(false, eval e X.env)]) : DI X W tg (.Call (.Name "range" p) [e] [] pos) (iRange1 am) := by
  refine PI_imp (pi_range1 hg hm ha hs) fun σ H Q ⟨H0, F0, mg, g, mu, F, r, h⟩ => ?_
  refine tDA_seq r h (fun c p mu' hE => hE) fun ds mu1 vs H1 F1 st ra k => ?_
  split at k
  · rename_i n
    split at k
    · rename_i c
      obtain ⟨v, rfl, rv⟩ := ra.one
      cases rv
      have z := k (Itr 0 n.toNat) H1 F1 st (by
        have w := @itd_range X.K H1 F1 0 n.toNat
        have e : ((List.range n.toNat).map fun (i : Nat) => PyData.int ((0 : Int) + (i : Int))) = (List.range n.toNat).map fun (i : Nat) => PyData.int (i : Int) := by
          refine List.map_congr_left fun a _ => ?_
          rw [Int.zero_add]
        rw [e] at w
        exact w)
      exact ⟨n, rfl, c.1, c.2, z⟩
    · exact k.elim
  · exact k.elim
theorem di_range2 {e2 : Expr} (hg : Gl X "range") (hm : X.mg "range" = none) (ha : DA X W [e, e2] am) (hs : starEach [e, e2] X.env = [(false, eval e X.env), (false, eval e2 X.env)]) (hs2 : starEach [e2] X.env = [(false, eval e2 X.env)]) :
    DI X W tg (.Call (.Name "range" p) [e, e2] [] pos) (iRange2 am) := by
  refine PI_imp (pi_range2 hg hm ha hs hs2) fun σ H Q ⟨H0, F0, mg, g, mu, F, r, h⟩ => ?_
  refine tDA_seq r h (fun c p mu' hE => hE) fun ds mu1 vs H1 F1 st ra k => ?_
  split at k
  · rename_i lo hi
    split at k
    · rename_i c
      obtain ⟨v, u, rfl, rv, ru⟩ := ra.two
      cases rv
      cases ru
      exact ⟨lo, hi, rfl, c, k _ H1 F1 st itd_range⟩
    · exact k.elim
  · exact k.elim

/-! ### for -/
def forS (gm : GM) (body : SM) : List D → SM
  | [], g, mu => .nx g mu
  | d :: ds, g, mu => match gm d g mu with
    | some (g1, mu1) => match body g1 mu1 with
      | .nx g2 mu2 => forS gm body ds g2 mu2
      | .ct g2 mu2 => forS gm body ds g2 mu2
      | .bk g2 mu2 => .nx g2 mu2
      | .rt d mu2 => .rt d mu2
      | .exc c p g2 mu2 => .exc c p g2 mu2
      | .bad => .bad
    | none => .bad
def sFor (im : IM) (gm : GM) (body : SM) : SM := fun g mu => (im g mu).toS g fun ds mu1 => forS gm body ds g mu1
theorem ds_for {ws : List Nat} (hp : PassesOwn (model X.prog X.w) X.A X.env X.xe) (hc : X.calm = true) (hi : DI X W tg iter im) (hg : DG X tg ws gm) (hb : DSs X W body sb) (hs : ∀ x, foldedSetIterable iter X.env x = pure x) :
    DS X W (.For tg iter body [] pos) (sFor im gm sb) := by
  refine PS_imp (ps_for hp hc hi hg hb hs) fun Dn σ H ⟨H0, F0, mg, g, mu, F, r, h⟩ => ?_
  refine ⟨H0, F0, mg, g, mu, F, r, R.wp_mono (R.wp_toS.mp h) (fun ds mu1 k J H1 F1 st it => ?_) fun c p mu' hE H' F' cls dx st x => hE σ H' F' cls dx (r.ext st) (r.step st) x⟩
  have k := psOf_ext (r.ext st) k
  refine ⟨fun i n σ2 H2 => n = ds.length - i ∧ i ≤ ds.length ∧ ∃ g2 mu2 F2, Ext H1 F1 H2 F2 ∧ Rel X.K H0 F0 mg g2 mu2 σ2 H2 F2 ∧ (forS gm sb (ds.drop i) g2 mu2).wp (psOf X.K X.mg W H0 F0 mg H2 F2 Dn),
    ⟨ds.length, by simp, Nat.zero_le _, g, mu1, F1, .refl, r.step st, by simpa using k⟩, ?_⟩
  rintro i n σ2 H2 ⟨rfl, hle, g2, mu2, F2, ex2, r2, k2⟩
  by_cases hlt : i < ds.length
  · refine .inr ⟨it.go i H2 F2 hlt ex2, _, fun σ' H' w => ⟨ds.length - (i + 1), by omega, w⟩, fun x H3 hy => ?_⟩
    obtain ⟨mon, rp⟩ := it.yld i ds[i] x H2 F2 H3 (List.getElem?_eq_getElem hlt) ex2 hy
    have st3 : Stp X.K mg H2 F2 mu2 H3 F2 := by
      refine ⟨fun a o e _ => mon a o e (by simp), fun _ z => z, fun _ z => .inl z, fun a e => ?_⟩
      obtain ⟨vs, q1, q2, q3, q4⟩ := r2.mug a e
      have ex : Ext H2 F2 H3 F2 := ⟨fun _ z => z, fun a o _ e => mon a o e (by simp), fun a xs z => by
        rcases z with z | ⟨o, z⟩
        · exact .inl (mon a _ z (by simp))
        · exact .inr ⟨o, mon a _ z (by simp)⟩⟩
      exact ⟨vs, mon a _ q1 (by simp), q2, q3, q4.ext ex _ _⟩
    have r3 := r2.step st3
    have ex3 := r2.ext st3
    rw [List.drop_eq_getElem_cons hlt] at k2
    have k3 := psOf_ext ex3 k2
    refine ⟨H0, F0, mg, g2, mu2, F2, ds[i], r3, rp, ?_⟩
    unfold forS at k3
    cases q : gm ds[i] g2 mu2 with
    | none => rw [q] at k3; exact k3
    | some y =>
      obtain ⟨g4, mu4⟩ := y
      rw [q] at k3
      dsimp only at k3 ⊢
      intro σ4 H4 so4 mo4 r4
      have ex4 := r3.extM mo4
      refine ⟨H0, F0, mg, g4, mu4, F2, r4, ?_⟩
      have k4 := psOf_ext ex4 k3
      have ex14 := (ex2.trans ex3).trans ex4
      have go : ∀ {g5 : Gm} {mu5 : Mu}, (forS gm sb (ds.drop (i + 1)) g5 mu5).wp (psOf X.K X.mg W H0 F0 mg H4 F2 Dn) → ∀ σ' H' F', Ext H4 F2 H' F' → Rel X.K H0 F0 mg g5 mu5 σ' H' F' →
          ds.length - (i + 1) = ds.length - (i + 1) ∧ i + 1 ≤ ds.length ∧ ∃ g2 mu2 F2, Ext H1 F1 H' F2 ∧ Rel X.K H0 F0 mg g2 mu2 σ' H' F2 ∧ (forS gm sb (ds.drop (i + 1)) g2 mu2).wp (psOf X.K X.mg W H0 F0 mg H' F2 Dn) :=
        fun {g5 mu5} w σ' H' F' ex5 r5 => ⟨rfl, hlt, g5, mu5, F', ex14.trans ex5, r5, psOf_ext ex5 w⟩
      cases q4 : sb g4 mu4 with
      | nx g5 mu5 =>
        rw [q4] at k4
        exact go k4
      | ct g5 mu5 =>
        rw [q4] at k4
        exact go k4
      | bk g5 mu5 =>
        rw [q4] at k4
        exact k4
      | rt d mu5 =>
        rw [q4] at k4
        exact k4
      | exc c p g5 mu5 =>
        rw [q4] at k4
        exact k4
      | bad =>
        rw [q4] at k4
        exact k4
  · have e : i = ds.length := by omega
    subst e
    refine .inl ⟨it.stop H2 F2 ex2, ?_⟩
    rw [List.drop_length] at k2
    exact k2 σ2 H2 F2 .refl r2

/-! ### while -/
def whIter (mt : TM) (body : SM) : Nat → SM
  | 0, _, _ => .bad
  | n + 1, g, mu => match mt g mu with
    | .ok true mu1 => match body g mu1 with
      | .nx g2 mu2 => whIter mt body n g2 mu2
      | .ct g2 mu2 => whIter mt body n g2 mu2
      | .bk g2 mu2 => .nx g2 mu2
      | .rt d mu2 => .rt d mu2
      | .exc c p g2 mu2 => .exc c p g2 mu2
      | .bad => .bad
    | .ok false mu1 => .nx g mu1
    | .exc c p mu1 => .exc c p g mu1
    | .bad => .bad
theorem whIter_more (mt : TM) (body : SM) : ∀ (n : Nat) (g : Gm) (mu : Mu), whIter mt body n g mu ≠ .bad → whIter mt body (n + 1) g mu = whIter mt body n g mu
  | 0, g, mu, h => absurd rfl h
  | n + 1, g, mu, h => by
    unfold whIter at h ⊢
    split
    · rename_i mu1 q
      rw [q] at h
      dsimp only at h
      split
      · rename_i g2 mu2 q2
        rw [q2] at h
        exact whIter_more mt body n g2 mu2 h
      · rename_i g2 mu2 q2
        rw [q2] at h
        exact whIter_more mt body n g2 mu2 h
      · rfl
      · rfl
      · rfl
      · rfl
    · rfl
    · rfl
    · rfl
theorem whIter_le (mt : TM) (body : SM) {n : Nat} {g : Gm} {mu : Mu} (h : whIter mt body n g mu ≠ .bad) : ∀ k : Nat, whIter mt body (n + k) g mu = whIter mt body n g mu
  | 0 => rfl
  | k + 1 => by
    have ih := whIter_le mt body h k
    rw [← Nat.add_assoc, whIter_more mt body (n + k) g mu (by rw [ih]; exact h), ih]
open Classical in
noncomputable def sWhile (mt : TM) (body : SM) : SM := fun g mu => if h : ∃ n, whIter mt body n g mu ≠ .bad then whIter mt body (Classical.choose h) g mu else .bad
/-- a while that comes to an end within n turns -/
theorem sWhile_eq {mt : TM} {body : SM} {n : Nat} {g : Gm} {mu : Mu} {r : RS} (h : whIter mt body n g mu = r) (hr : r ≠ .bad) : sWhile mt body g mu = r := by
  have hn : whIter mt body n g mu ≠ .bad := by rw [h]; exact hr
  have hex : ∃ n, whIter mt body n g mu ≠ .bad := ⟨n, hn⟩
  unfold sWhile
  rw [dif_pos hex]
  have hc := Classical.choose_spec hex
  rw [← h]
  rcases Nat.le_total n (Classical.choose hex) with hl | hl
  · obtain ⟨k, e⟩ := Nat.exists_eq_add_of_le hl
    rw [e]
    exact whIter_le mt body hn k
  · obtain ⟨k, e⟩ := Nat.exists_eq_add_of_le hl
    have := whIter_le mt body hc k
    rw [← e] at this
    exact this.symm
theorem ds_while {c : Expr} {mt : TM} (hp : PassesOwn (model X.prog X.w) X.A X.env X.xe) (hc : DT X W c mt) (hb : DSs X W body sb) : DS X W (.While c body [] pos) (sWhile mt sb) := by
  refine PS_imp (ps_while hp hc hb) fun Dn σ H ⟨H0, F0, mg, g, mu, F, r, h⟩ => ?_
  have hex : ∃ n, (whIter mt sb n g mu).wp (psOf X.K X.mg W H0 F0 mg H F Dn) := by
    unfold sWhile at h
    split at h
    · exact ⟨_, h⟩
    · exact h.elim
  obtain ⟨n, k⟩ := hex
  refine ⟨fun n σ2 H2 => ∃ g2 mu2 F2, Rel X.K H0 F0 mg g2 mu2 σ2 H2 F2 ∧ (whIter mt sb n g2 mu2).wp (psOf X.K X.mg W H0 F0 mg H2 F2 Dn), ⟨n, g, mu, F, r, k⟩, ?_⟩
  rintro n σ2 H2 ⟨g2, mu2, F2, r2, k2⟩
  cases n with
  | zero => exact k2.elim
  | succ n =>
    unfold whIter at k2
    refine ⟨H0, F0, mg, g2, mu2, F2, r2, ?_⟩
    cases q : mt g2 mu2 with
    | bad => rw [q] at k2; exact k2
    | exc c p mu1 =>
      rw [q] at k2
      exact fun H' F' cls dx st x => k2 σ2 H' F' cls dx (r2.ext st) (r2.step st) x
    | ok b mu1 =>
      rw [q] at k2
      intro H3 F3 st
      have ex := r2.ext st
      have r3 := r2.step st
      cases b with
      | false =>
        simp only [Bool.false_eq_true, if_false]
        exact k2 σ2 H3 F3 ex r3
      | true =>
        simp only [if_true]
        refine ⟨_, fun σ' H' w => ⟨n, Nat.lt_succ_self n, w⟩, H0, F0, mg, g2, mu1, F3, r3, ?_⟩
        have k3 := psOf_ext ex k2
        dsimp only at k3
        cases q4 : sb g2 mu1 with
        | nx g5 mu5 =>
          rw [q4] at k3
          exact fun σ' H' F' ex5 r5 => ⟨g5, mu5, F', r5, psOf_ext ex5 k3⟩
        | ct g5 mu5 =>
          rw [q4] at k3
          exact fun σ' H' F' ex5 r5 => ⟨g5, mu5, F', r5, psOf_ext ex5 k3⟩
        | bk g5 mu5 =>
          rw [q4] at k3
          exact k3
        | rt d mu5 =>
          rw [q4] at k3
          exact k3
        | exc c p g5 mu5 =>
          rw [q4] at k3
          exact k3
        | bad =>
          rw [q4] at k3
          exact k3
end
end Wf
/-! W8: list comprehensions. -/
namespace Wf
open PySem L2

def wipeG (g : Gm) : List Nat → Gm
  | [] => g
  | v :: vs => (wipeG g vs).set v .no
/-- the turns of a comprehension; its own names are forgotten behind each -/
def compS (gm : GM) (mt : TM) (me : EM) : List D → Gm → Mu → R (List D)
  | [], _, mu => .ok [] mu
  | d :: ds, g, mu => match gm d g mu with
    | some (g1, mu1) => (mt g1 mu1).bind fun b mu2 => if b = true then (me g1 mu2).bind fun y mu3 => (compS gm mt me ds g mu3).bind fun ys mu4 => .ok (y :: ys) mu4 else compS gm mt me ds g mu2
    | none => .bad
def eComp (vs : List Nat) (im : IM) (gm : GM) (mt : TM) (me : EM) : EM := fun g mu => (im g mu).bind fun ds mu1 => match compS gm mt me ds (wipeG g vs) mu1 with
  | .ok ys mu2 => if ys.length ≤ lineN then .ok (.list ys) mu2 else .bad
  | _ => .bad
def mYes : TM := fun _ mu => .ok true mu
/-- y = [..], a list that the block goes on writing -/
def sOwnLc (i : Nat) (vs : List Nat) (im : IM) (gm : GM) (mt : TM) (me : EM) : SM := fun g mu => (im g mu).toS g fun ds mu1 => match compS gm mt me ds (wipeG g vs) mu1 with
  | .ok ys mu2 => if ys.length ≤ lineN then sNx (setSl g i (.own ys)) mu2 else .bad
  | _ => .bad

section
variable {K : PySem.W.Frag} {H0 H : Hp} {F0 F : Fz} {mg : Option Addr} {g : Gm} {mu : Mu} {σ : St}
theorem Rel.forget (r : Rel K H0 F0 mg g mu σ H F) (i : Nat) : Rel K H0 F0 mg (g.set i .no) mu (σ.set i none) H F := by
  have ne : ∀ {k : Nat} {es : List D}, (g.set i .no)[k]? = some (.own es) → i ≠ k := fun {k es} h e => by
    subst e
    have hi : i < g.length := by
      have := (List.getElem?_eq_some_iff.mp h).1
      simpa using this
    rw [List.getElem?_set_self hi] at h; cases h
  refine ⟨by simpa using r.len, fun j s o h1 h2 => ?_, fun j k ds es a h1 h2 h3 h4 => ?_, fun j ds a h1 h2 => ?_, r.f0, r.fnew, r.ftr, r.frame, r.mug, r.mu0⟩
  · by_cases e : i = j
    · subst e
      have hi : i < g.length := by
        have := (List.getElem?_eq_some_iff.mp h1).1
        simpa using this
      rw [List.getElem?_set_self hi] at h1
      cases h1
      trivial
    · rw [List.getElem?_set_ne e] at h1 h2
      exact r.slot j s o h1 h2
  · have n1 := ne h1
    have n2 := ne h2
    rw [List.getElem?_set_ne n1] at h1 h3
    rw [List.getElem?_set_ne n2] at h2 h4
    exact r.inj j k ds es a h1 h2 h3 h4
  · have n1 := ne h1
    rw [List.getElem?_set_ne n1] at h1 h2
    exact r.owf j ds a h1 h2
theorem Rel.wipe (r : Rel K H0 F0 mg g mu σ H F) : ∀ vs : List Nat, Rel K H0 F0 mg (wipeG g vs) mu (L2.wipe σ vs) H F
  | [] => r
  | v :: vs => (Rel.wipe r vs).forget v
theorem wipe_get : ∀ (vs : List Nat) (σ : St) (j : Nat), (L2.wipe σ vs)[j]? = if j ∈ vs ∧ j < σ.length then some none else σ[j]?
  | [], σ, j => by simp [L2.wipe]
  | v :: vs, σ, j => by
    unfold L2.wipe
    by_cases e : v = j
    · subst e
      by_cases hl : v < σ.length
      · rw [List.getElem?_set_self (by rw [wipe_length]; exact hl), if_pos ⟨List.mem_cons_self, hl⟩]
      · rw [if_neg (fun z => hl z.2), List.getElem?_eq_none (by rw [List.length_set, wipe_length]; omega), List.getElem?_eq_none (by omega)]
    · rw [List.getElem?_set_ne e, wipe_get vs σ j]
      have : (j ∈ v :: vs) ↔ j ∈ vs := by simp [Ne.symm e]
      by_cases hm : j ∈ vs ∧ j < σ.length
      · rw [if_pos hm, if_pos ⟨this.mpr hm.1, hm.2⟩]
      · rw [if_neg hm, if_neg fun z => hm ⟨this.mp z.1, z.2⟩]
theorem wipe_same {vs ws : List Nat} {σ σ' : St} (hs : ∀ j ∈ ws, j ∈ vs) (so : SameOut ws (L2.wipe σ vs) σ') : L2.wipe σ' vs = L2.wipe σ vs := by
  have hlen : σ'.length = σ.length := by rw [so.1, wipe_length]
  refine List.ext_getElem? fun j => ?_
  rw [wipe_get, wipe_get, hlen]
  by_cases hm : j ∈ vs ∧ j < σ.length
  · rw [if_pos hm, if_pos hm]
  · rw [if_neg hm, if_neg hm]
    by_cases hj : j ∈ vs
    · have : ¬ j < σ.length := fun z => hm ⟨hj, z⟩
      rw [List.getElem?_eq_none (by omega), List.getElem?_eq_none (by omega)]
    · rw [so.2 j fun z => hj (hs j z), wipe_get, if_neg fun z => hj z.1]
end

abbrev W0 : WX := fun _ _ _ _ => False
section
variable {X : Cx} {W : WX}
/-- the reading of a comprehension; k: what is done with the new list -/
theorem comp_rd {gm : GM} {mt : TM} {me : EM} {im : IM} {vs ws : List Nat} {σ : St} {H : Hp} {Q : VK} {H0 : Hp} {F0 F : Fz} {mg : Option Addr} {g : Gm} {mu : Mu} (hs : ∀ j ∈ ws, j ∈ vs) (r : Rel X.K H0 F0 mg g mu σ H F)
    (h : (im g mu).wp (fun ds mu1 => ∃ ys mu2, compS gm mt me ds (wipeG g vs) mu1 = .ok ys mu2 ∧ ys.length ≤ lineN ∧
        ∀ L acc H' F', Stp X.K mg H F mu2 H' F' → mg ≠ some L → H L = none → H' L = some (.lst acc) → ¬ F' L → RpA X.K H' F' acc ys → Q (.ref L) H')
      (fun c p mu' => ∀ H' F' cls dx, Stp X.K mg H F mu' H' F' → ExcIs X.K X.mg H' F' c p cls dx → W cls dx σ H')) :
    tLc (tI X.K X.mg W im) (tG X.K ws gm) (tDT X.K X.mg W0 mt) (tD X.K X.mg W0 me) vs σ H Q := by
  refine ⟨H0, F0, mg, g, mu, F, r, R.wp_mono h (fun ds mu1 k J H1 F1 st it L hD => ?_) fun c p mu' hE => hE⟩
  obtain ⟨ys, mu2, hc, hlen, k⟩ := k
  have r1 := r.step st
  have hD0 : H L = none := by
    by_cases e : mg = some L
    · obtain ⟨vs, q, _⟩ := st.mug L e
      rw [hD] at q; cases q
    · exact st.mon.none e hD
  have nmD : mg ≠ some L := fun e => by
    obtain ⟨vs, q, _⟩ := st.mug L e
    rw [hD] at q; cases q
  refine ⟨fun i n H2 => n = ds.length - i ∧ i ≤ ds.length ∧ ∃ F2 mu3 acc ys1 ys2, Stp X.K mg H1 F1 mu3 H2 F2 ∧ H2 L = some (.lst acc) ∧ ¬ F2 L ∧ RpA X.K H2 F2 acc ys1 ∧ compS gm mt me (ds.drop i) (wipeG g vs) mu3 = .ok ys2 mu2 ∧ ys = ys1 ++ ys2,
    ⟨ds.length, by simp, Nat.zero_le _, F1, mu1, [], [], ys, stp_new st.mug hD, upd_same, fun z => ?_, .nil, by simpa using hc, rfl⟩, ?_⟩
  · obtain ⟨o, q⟩ := r1.ftr L z
    rw [hD] at q; cases q
  rintro i n H2 ⟨rfl, hle, F2, mu3, acc, ys1, ys2, st2, hacc, nF2, ra, hc2, rfl⟩
  by_cases hlt : i < ds.length
  · refine .inr ⟨it.go i H2 F2 hlt (r1.ext st2), _, fun H' w => ⟨ds.length - (i + 1), by omega, w⟩, fun x H3 hy => ?_⟩
    obtain ⟨mon, rp⟩ := it.yld i ds[i] x H2 F2 H3 (List.getElem?_eq_getElem hlt) (r1.ext st2) hy
    have r2 := r1.step st2
    have st3 : Stp X.K mg H2 F2 mu3 H3 F2 := by
      refine ⟨fun a o e _ => mon a o e (by simp), fun _ z => z, fun _ z => .inl z, fun a e => ?_⟩
      obtain ⟨us, q1, q2, q3, q4⟩ := r2.mug a e
      have ex : Ext H2 F2 H3 F2 := ⟨fun _ z => z, fun a o _ e => mon a o e (by simp), fun a xs z => by
        rcases z with z | ⟨o, z⟩
        · exact .inl (mon a _ z (by simp))
        · exact .inr ⟨o, mon a _ z (by simp)⟩⟩
      exact ⟨us, mon a _ q1 (by simp), q2, q3, q4.ext ex _ _⟩
    have st13 := st2.trans st3
    have r3 := (r1.step st13).wipe vs
    rw [List.drop_eq_getElem_cons hlt] at hc2
    unfold compS at hc2
    refine ⟨H0, F0, mg, wipeG g vs, mu3, F2, ds[i], r3, rp, ?_⟩
    cases q : gm ds[i] (wipeG g vs) mu3 with
    | none => rw [q] at hc2; cases hc2
    | some y =>
      obtain ⟨g4, mu4⟩ := y
      rw [q] at hc2
      dsimp only at hc2 ⊢
      intro σ4 H4 so4 mo4 r4
      refine ⟨wipe_same hs so4, ?_⟩
      have st34 : Stp X.K mg H3 F2 mu4 H4 F2 := ⟨mo4, fun _ z => z, fun _ z => .inl z, r4.mug⟩
      have st14 := st13.trans st34
      refine ⟨H0, F0, mg, g4, mu4, F2, r4, ?_⟩
      cases q5 : mt g4 mu4 with
      | bad => rw [q5] at hc2; cases hc2
      | exc c p mu5 => rw [q5] at hc2; cases hc2
      | ok b mu5 =>
        rw [q5] at hc2
        intro H5 F5 st45
        have st15 := st14.trans st45
        have st25 := (st3.trans st34).trans st45
        have r5 := r4.step st45
        cases b with
        | false =>
          simp only [Bool.false_eq_true, if_false]
          have hc3 : compS gm mt me (ds.drop (i + 1)) (wipeG g vs) mu5 = .ok ys2 mu2 := hc2
          refine ⟨trivial, hlt, F5, mu5, acc, ys1, ys2, st15, st25.mon L _ hacc nmD, fun z => ?_, ra.ext (r2.ext st25) _ _, hc3, rfl⟩
          rcases st25.new L z with z | ⟨z, _⟩
          · exact nF2 z
          · rw [hacc] at z; cases z
        | true =>
          simp only [if_true]
          refine ⟨H0, F0, mg, g4, mu5, F5, r5, ?_⟩
          have hc3 : ((me g4 mu5).bind fun y mu3 => (compS gm mt me (ds.drop (i + 1)) (wipeG g vs) mu3).bind fun ys mu4 => .ok (y :: ys) mu4) = .ok ys2 mu2 := hc2
          cases q6 : me g4 mu5 with
          | bad => rw [q6] at hc3; cases hc3
          | exc c p mu6 => rw [q6] at hc3; cases hc3
          | ok y mu6 =>
            rw [q6] at hc3
            intro v H6 F6 st56 rp6
            have st26 := st25.trans st56
            have st16 := st15.trans st56
            have hacc6 := st26.mon L _ hacc nmD
            have nF6 : ¬ F6 L := fun z => by
              rcases st26.new L z with z | ⟨z, _⟩
              · exact nF2 z
              · rw [hacc] at z; cases z
            have hc4 : ((compS gm mt me (ds.drop (i + 1)) (wipeG g vs) mu6).bind fun ys mu4 => (.ok (y :: ys) mu4 : R (List D))) = .ok ys2 mu2 := hc3
            cases q7 : compS gm mt me (ds.drop (i + 1)) (wipeG g vs) mu6 with
            | bad => rw [q7] at hc4; cases hc4
            | exc c p mu7 => rw [q7] at hc4; cases hc4
            | ok ys7 mu7 =>
              rw [q7] at hc4
              injection hc4 with e1 e2
              subst e1
              subst e2
              have ra6 := ra.ext (r2.ext st26) _ _
              refine ⟨acc, hacc6, ?_, trivial, hlt, F6, mu6, acc ++ [v], ys1 ++ [y], ys7, ?_, upd_same, nF6, ?_, q7, by simp⟩
              · rw [line_eq, ra.length]
                rw [List.length_append, List.length_cons] at hlen
                omega
              · refine ⟨fun a o e n => ?_, st16.sub, fun a z => ?_, fun a e => ?_⟩
                · rw [upd_ne (fun w : a = L => by rw [w, hD] at e; cases e)]
                  exact st16.mon a o e n
                · rcases st16.new a z with w | ⟨w, o, w2⟩
                  · exact .inl w
                  · exact .inr ⟨w, o, by rw [upd_ne (fun u : a = L => nF6 (by rw [← u]; exact z))]; exact w2⟩
                · obtain ⟨us, q1, q2, q3, q4⟩ := st16.mug a e
                  exact ⟨us, by rw [upd_ne (fun u : a = L => nmD (by rw [← u]; exact e))]; exact q1, q2, q3, q4.ext (ext_write hacc6 nF6) _ _⟩
              · exact (ra6.app (.cons rp6 .nil)).ext (ext_write hacc6 nF6) _ _
  · have e : i = ds.length := by omega
    subst e
    refine .inl ⟨it.stop H2 F2 (r1.ext st2), ?_⟩
    rw [List.drop_length] at hc2
    unfold compS at hc2
    injection hc2 with e1 e2
    subst e1
    subst e2
    rw [List.append_nil] at k
    exact k L acc H2 F2 (st.trans st2) nmD hD0 hacc nF2 ra
/-- a new list that is to be frozen -/
theorem fz_end {K : PySem.W.Frag} {mg : Option Addr} {H H' : Hp} {F F' : Fz} {mu : Mu} {L : Addr} {acc : List V} {ys : List D} (st : Stp K mg H F mu H' F') (nm : mg ≠ some L) (h0 : H L = none) (h1 : H' L = some (.lst acc)) (ra : RpA K H' F' acc ys) :
    Stp K mg H F mu H' (fun a => F' a ∨ a = L) ∧ Rp K H' (fun a => F' a ∨ a = L) (.ref L) (.list ys) := by
  have ex : Ext H' F' H' (fun a => F' a ∨ a = L) := ⟨fun _ h => .inl h, fun _ _ _ h => h, fun _ _ h => h⟩
  refine ⟨⟨st.mon, fun a z => .inl (st.sub a z), fun a z => ?_, fun a e => ?_⟩, .lst (.inr rfl) h1 (ra.ext ex _ _)⟩
  · rcases z with z | z
    · exact st.new a z
    · subst z; exact .inr ⟨h0, _, h1⟩
  · obtain ⟨us, q1, q2, q3, q4⟩ := st.mug a e
    refine ⟨us, q1, fun z => ?_, q3, q4.ext ex _ _⟩
    rcases z with z | z
    · exact q2 z
    · exact nm (by rw [← z]; exact e)
theorem own_set {K : PySem.W.Frag} {H0 H : Hp} {F0 F : Fz} {mg : Option Addr} {g : Gm} {mu : Mu} {σ : St} (r : Rel K H0 F0 mg g mu σ H F) {i k : Nat} {L a : Addr} {ds es : List D} (x1 : (g.set i (.own ds))[k]? = some (.own es))
    (x2 : (σ.set i (some (.ref L)))[k]? = some (some (.ref a))) : (i = k ∧ a = L) ∨ (i ≠ k ∧ ∃ es2, g[k]? = some (.own es2) ∧ σ[k]? = some (some (.ref a))) := by
  by_cases e : i = k
  · subst e
    have hi : i < g.length := by
      have := (List.getElem?_eq_some_iff.mp x1).1
      simpa using this
    rw [List.getElem?_set_self (by rw [← r.len]; exact hi)] at x2
    cases x2
    exact .inl ⟨rfl, rfl⟩
  · rw [List.getElem?_set_ne e] at x1 x2
    exact .inr ⟨e, es, x1, x2⟩
/-- a new list that a block keeps for itself -/
theorem Rel.keepOwn {K : PySem.W.Frag} {H0 H : Hp} {F0 F : Fz} {mg : Option Addr} {g : Gm} {mu mu' : Mu} {σ : St} {H' : Hp} {F' : Fz} (r : Rel K H0 F0 mg g mu σ H F) (st : Stp K mg H F mu' H' F') {i : Nat} {L : Addr} {vs : List V} {ds : List D} (nm : mg ≠ some L) (h0 : H L = none) (h1 : H' L = some (.lst vs))
    (nF : ¬ F' L) (ra : RpA K H' F' vs ds) : Rel K H0 F0 mg (g.set i (.own ds)) mu' (σ.set i (some (.ref L))) H' F' := by
  have r1 := r.step st
  have h00 : H0 L = none := by
    cases e : H0 L with
    | none => rfl
    | some o =>
      rw [r.frame L o e nm] at h0; cases h0
  have other : ∀ {j : Nat} {es : List D} {a : Addr}, g[j]? = some (.own es) → σ[j]? = some (some (.ref a)) → a ≠ L := fun {j es a} h1 h2 z => by
    obtain ⟨b, ws, q1, q2, _⟩ := r.slot j _ _ h1 h2
    injection q1 with q1
    injection q1 with q1
    subst q1
    rw [z, h0] at q2; cases q2
  refine ⟨by simpa using r.len, fun j s o h3 h4 => ?_, fun j k ds es a h3 h4 h5 h6 => ?_, fun j ds a h3 h4 => ?_, r1.f0, r1.fnew, r1.ftr, r1.frame, r1.mug, r1.mu0⟩
  · by_cases e : i = j
    · subst e
      have hi : i < g.length := by
        have := (List.getElem?_eq_some_iff.mp h3).1
        simpa using this
      rw [List.getElem?_set_self hi] at h3
      rw [List.getElem?_set_self (by rw [← r.len]; exact hi)] at h4
      cases h3
      cases h4
      exact ⟨L, vs, rfl, h1, nF, ra⟩
    · rw [List.getElem?_set_ne e] at h3 h4
      exact r1.slot j s o h3 h4
  · rcases own_set r h3 h5 with ⟨e1, e2⟩ | ⟨_, es1, y1, y2⟩
    · rcases own_set r h4 h6 with ⟨e3, _⟩ | ⟨_, es2, z1, z2⟩
      · rw [← e1, ← e3]
      · exact absurd e2 (other z1 z2)
    · rcases own_set r h4 h6 with ⟨_, e4⟩ | ⟨_, es2, z1, z2⟩
      · exact absurd e4 (other y1 y2)
      · exact r.inj j k _ _ a y1 z1 y2 z2
  · rcases own_set r h3 h4 with ⟨_, e2⟩ | ⟨_, es1, y1, y2⟩
    · rw [e2]; exact h00
    · exact r.owf j _ a y1 y2

section
variable {X : Cx} {W : WX} {elt tg iter : Expr} {ifs : List Expr} {scope : Scope} {own : List (Str × Nat)} {pos : Pos} {gm : GM} {mt : TM} {me : EM} {im : IM} {ws : List Nat}
theorem de_comp (hc : X.calm = true) (hN : X.N.Nodup) (hi : DI X W tg iter im) (ok : BlkOk X.N X.env.scope scope own) (hw : ∀ j ∈ ws, j ∈ own.map (·.2))
    (hg : ∀ (s : Shared) (H : Hp) (C : Addr) (cl : List (Str × Addr)) (fp : List Addr), DG (X.blk s H scope (compEnvC scope cl C X.env) fp) tg ws gm)
    (ht : ∀ (s : Shared) (H : Hp) (C : Addr) (cl : List (Str × Addr)) (fp : List Addr), PTs (X.blk s H scope (compEnvC scope cl C X.env) fp) ifs (tDT X.K X.mg W0 mt))
    (he : ∀ (s : Shared) (H : Hp) (C : Addr) (cl : List (Str × Addr)) (fp : List Addr), DE (X.blk s H scope (compEnvC scope cl C X.env) fp) W0 elt me) (hs : ∀ x, foldedSetIterable iter X.env x = pure x) :
    DE X W (.ListComp elt [⟨tg, iter, ifs, 0⟩] scope pos) (eComp (own.map (·.2)) im gm mt me) := by
  refine PE_imp (pe_lc (g := tG X.K ws gm) (te := tD X.K X.mg W0 me) hc hN hi ok hg ht he hs) fun σ H Q ⟨H0, F0, mg, g, mu, F, r, h⟩ => ?_
  refine comp_rd hw r (R.wp_mono (R.wp_bind.mp h) (fun ds mu1 k => ?_) fun c p mu' hE => hE)
  split at k
  · rename_i ys mu2 q
    split at k
    · rename_i c
      refine ⟨ys, mu2, q, c, fun L acc H' F' st nm h0 h1 nF ra => ?_⟩
      obtain ⟨st', rp⟩ := fz_end st nm h0 h1 ra
      exact k _ H' _ st' rp
    · exact k.elim
  · exact k.elim
theorem ds_comp {i : Nat} {y : Str} {py spos : Pos} (hc : X.calm = true) (hN : X.N.Nodup) (hy : X.N[i]? = some y) (hyl : X.env.scope.names.lookup y = some .local)
    (hsw : swapsWith (.ListComp elt [⟨tg, iter, ifs, 0⟩] scope pos) (some (.Name y py)) spos.line X.env = pure true) (hi : DI X W tg iter im) (ok : BlkOk X.N X.env.scope scope own) (hw : ∀ j ∈ ws, j ∈ own.map (·.2))
    (hg : ∀ (s : Shared) (H : Hp) (C : Addr) (cl : List (Str × Addr)) (fp : List Addr), DG (X.blk s H scope (compEnvC scope cl C X.env) fp) tg ws gm)
    (ht : ∀ (s : Shared) (H : Hp) (C : Addr) (cl : List (Str × Addr)) (fp : List Addr), PTs (X.blk s H scope (compEnvC scope cl C X.env) fp) ifs (tDT X.K X.mg W0 mt))
    (he : ∀ (s : Shared) (H : Hp) (C : Addr) (cl : List (Str × Addr)) (fp : List Addr), DE (X.blk s H scope (compEnvC scope cl C X.env) fp) W0 elt me) (hs : ∀ x, foldedSetIterable iter X.env x = pure x) :
    DS X W (.Assign [.Name y py] (.ListComp elt [⟨tg, iter, ifs, 0⟩] scope pos) spos) (sSet i (eComp (own.map (·.2)) im gm mt me)) := by
  refine PS_imp (ps_setLc (g := tG X.K ws gm) (te := tD X.K X.mg W0 me) hc hN hy hyl hsw hi ok hg ht he hs) fun Dn σ H ⟨H0, F0, mg, g, mu, F, r, h⟩ => ?_
  have h := R.wp_bind.mp (R.wp_toS.mp h)
  refine comp_rd hw r (R.wp_mono h (fun ds mu1 k => ?_) fun c p mu' hE H' F' cls dx st x => hE σ H' F' cls dx (r.ext st) (r.step st) x)
  split at k
  · rename_i ys mu2 q
    split at k
    · rename_i c
      refine ⟨ys, mu2, q, c, fun L acc H' F' st nm h0 h1 nF ra => ?_⟩
      obtain ⟨st', rp⟩ := fz_end st nm h0 h1 ra
      have k : (sNx (setSl g i (.val (.list ys))) mu2).wp (psOf X.K X.mg W H0 F0 mg H F Dn) := k
      cases q2 : setSl g i (.val (.list ys)) with
      | none => rw [q2] at k; exact k.elim
      | some g' =>
        rw [q2] at k
        rw [setSl_some q2] at k
        exact k _ H' _ (r.ext st') ((r.step st').setVal rp)
    · exact k.elim
  · exact k.elim
theorem ds_compOwn {i : Nat} {y : Str} {py spos : Pos} (hc : X.calm = true) (hN : X.N.Nodup) (hy : X.N[i]? = some y) (hyl : X.env.scope.names.lookup y = some .local)
    (hsw : swapsWith (.ListComp elt [⟨tg, iter, ifs, 0⟩] scope pos) (some (.Name y py)) spos.line X.env = pure true) (hi : DI X W tg iter im) (ok : BlkOk X.N X.env.scope scope own) (hw : ∀ j ∈ ws, j ∈ own.map (·.2))
    (hg : ∀ (s : Shared) (H : Hp) (C : Addr) (cl : List (Str × Addr)) (fp : List Addr), DG (X.blk s H scope (compEnvC scope cl C X.env) fp) tg ws gm)
    (ht : ∀ (s : Shared) (H : Hp) (C : Addr) (cl : List (Str × Addr)) (fp : List Addr), PTs (X.blk s H scope (compEnvC scope cl C X.env) fp) ifs (tDT X.K X.mg W0 mt))
    (he : ∀ (s : Shared) (H : Hp) (C : Addr) (cl : List (Str × Addr)) (fp : List Addr), DE (X.blk s H scope (compEnvC scope cl C X.env) fp) W0 elt me) (hs : ∀ x, foldedSetIterable iter X.env x = pure x) :
    DS X W (.Assign [.Name y py] (.ListComp elt [⟨tg, iter, ifs, 0⟩] scope pos) spos) (sOwnLc i (own.map (·.2)) im gm mt me) := by
  refine PS_imp (ps_setLc (g := tG X.K ws gm) (te := tD X.K X.mg W0 me) hc hN hy hyl hsw hi ok hg ht he hs) fun Dn σ H ⟨H0, F0, mg, g, mu, F, r, h⟩ => ?_
  have h := R.wp_toS.mp h
  refine comp_rd hw r (R.wp_mono h (fun ds mu1 k => ?_) fun c p mu' hE H' F' cls dx st x => hE σ H' F' cls dx (r.ext st) (r.step st) x)
  split at k
  · rename_i ys mu2 q
    split at k
    · rename_i c
      refine ⟨ys, mu2, q, c, fun L acc H' F' st nm h0 h1 nF ra => ?_⟩
      cases q2 : setSl g i (.own ys) with
      | none => rw [q2] at k; exact k.elim
      | some g' =>
        rw [q2] at k
        rw [setSl_some q2] at k
        exact k _ H' F' (r.ext st) (r.keepOwn st nm h0 h1 nF ra)
    · exact k.elim
  · exact k.elim
theorem dts_nil : PTs X [] (tDT X.K X.mg W mYes) := ⟨fun pins s σ H Q I ⟨H0, F0, mg, g, mu, F, r, h⟩ => pts_nil.run pins s σ H Q I (h H F (.refl r.mug))⟩
theorem dts_one {c : Expr} (h : DT X W c mt) : PTs X [c] (tDT X.K X.mg W mt) := pts_one h
end
end
end Wf
/-! W9: defs and their calls. -/
namespace Wf
open PySem L2
open PyProof.Rows (envOfC)

/-- what a def computes: its arguments (data, or the drawn list), the drawn list's contents -/
abbrev FM := List Sl → Mu → R D
/-- a body over n slots -/
def bodyM (n : Nat) (m : SM) : FM := fun as mu => match m (as ++ List.replicate (n - as.length) .no) mu with
  | .rt d mu1 => .ok d mu1
  | .nx _ mu1 => .ok .none mu1
  | .exc c p _ mu1 => .exc c p mu1
  | _ => .bad

/-- an argument as it comes -/
def ArgOk (K : PySem.W.Frag) (mg : Option Addr) (H : Hp) (F : Fz) : V → Sl → Prop
  | v, .val d => Rp K H F v d
  | v, .mug => ∃ a, mg = some a ∧ v = .ref a
  | _, _ => False
inductive ArgsOk (K : PySem.W.Frag) (mg : Option Addr) (H : Hp) (F : Fz) : List V → List Sl → Prop
  | nil : ArgsOk K mg H F [] []
  | cons {v : V} {vs : List V} {s : Sl} {ss : List Sl} : ArgOk K mg H F v s → ArgsOk K mg H F vs ss → ArgsOk K mg H F (v :: vs) (s :: ss)
theorem ArgsOk.length {K : PySem.W.Frag} {mg : Option Addr} {H : Hp} {F : Fz} : ∀ {vs : List V} {ss : List Sl}, ArgsOk K mg H F vs ss → vs.length = ss.length
  | _, _, .nil => rfl
  | _, _, .cons _ t => by rw [List.length_cons, List.length_cons, ArgsOk.length t]
theorem ArgsOk.get {K : PySem.W.Frag} {mg : Option Addr} {H : Hp} {F : Fz} : ∀ {vs : List V} {ss : List Sl} {i : Nat} {s : Sl}, ArgsOk K mg H F vs ss → ss[i]? = some s → ∃ v, vs[i]? = some v ∧ ArgOk K mg H F v s
  | _, _, _, _, .nil, e => by simp at e
  | _, _, 0, _, .cons r _, e => by
    simp at e; subst e; exact ⟨_, rfl, r⟩
  | _, _, i + 1, s, .cons _ t, e => by
    obtain ⟨v, h1, h2⟩ := ArgsOk.get (i := i) (s := s) t (by simpa using e)
    exact ⟨v, by simpa using h1, h2⟩
theorem ArgOk.ext {K : PySem.W.Frag} {mg : Option Addr} {H H' : Hp} {F F' : Fz} (e : Ext H F H' F') {v : V} {s : Sl} (h : ArgOk K mg H F v s) : ArgOk K mg H' F' v s := by
  cases s with
  | val d => exact Rp.ext e d v h
  | mug => exact h
  | no => exact h
  | own _ => exact h
  | exn _ _ _ _ => exact h

/-- a def's promise: what it computes -/
def spF (K : PySem.W.Frag) (mc : Str → Option Value) (np : Nat) (fm : FM) : Sp := fun vs H Q E => vs.length = np ∧ ∃ mg mu F as, ArgsOk K mg H F vs as ∧ MuOk K mg H F mu ∧ (∀ a, F a → ∃ o, H a = some o) ∧
  (fm as mu).wp (fun d mu' => ∀ v H' F', Fin K H F mg mu' H' F' → Rp K H' F' v d → Q v H') (fun c p mu' => ∀ H' F' cls dx, Fin K H F mg mu' H' F' → ExcIs K mc H' F' c p cls dx → E cls dx H')

/-- a def of the text that keeps a promise, where nothing is being shown -/
structure FnG (P : Program) (w : World) (K : PySem.W.Frag) (mg : Str → Option Value) (base : Heap) (k : Nat) (f : Addr) (fd : FuncData) (ps : List Str) (fm : FM) : Prop where
  run : ∀ (A : Around) (outer : List Env) (s : Shared) (H : Hp) (args : Args) (us : List Value) (vs : List V) (Q : VK) (E : XK), Room k A → A.guards = some [] → Env0 P w K mg base A outer s H → BindsTo s fd args (ps.zip us) → Vals vs us → spF K mg ps.length fm vs H Q E →
    codeAny (model P w) A (.call (.ref f) args) (CR (L2.CX P w) outer P w H s Q E) s
theorem FnG.mono {P : Program} {w : World} {K : PySem.W.Frag} {mg : Str → Option Value} {base : Heap} {j k : Nat} {f : Addr} {fd : FuncData} {ps : List Str} {fm : FM} (F : FnG P w K mg base j f fd ps fm) (h : j ≤ k) : FnG P w K mg base k f fd ps fm :=
  ⟨fun A outer s H args us vs Q E hr => F.run A outer s H args us vs Q E (hr.mono h)⟩

/-- the state at a body's start -/
theorem rel_start {K : PySem.W.Frag} {mg : Option Addr} {H : Hp} {F : Fz} {mu : Mu} {N : List Str} {vs : List V} {as : List Sl} (hl : vs.length ≤ N.length) (ha : ArgsOk K mg H F vs as) (hm : MuOk K mg H F mu) (hf : ∀ a, F a → ∃ o, H a = some o) :
    Rel K H F mg (as ++ List.replicate (N.length - as.length) .no) mu (L2.start N vs) H F := by
  have len := ha.length
  have noown : ∀ (i : Nat) ds, (as ++ List.replicate (N.length - as.length) Sl.no)[i]? ≠ some (.own ds) := fun i ds e => by
    by_cases hi : i < as.length
    · rw [List.getElem?_append_left hi] at e
      obtain ⟨v, _, h2⟩ := ha.get e
      exact h2
    · rw [List.getElem?_append_right (by omega), List.getElem?_replicate] at e
      split at e <;> cases e
  refine ⟨?_, fun i s o h1 h2 => ?_, fun i j ds es a h1 => absurd h1 (noown i ds), fun i ds a h1 => absurd h1 (noown i ds), fun _ h => h, fun _ h => .inl h, hf, fun _ _ h _ => h, hm, fun a e => ?_⟩
  · unfold L2.start
    rw [List.length_append, List.length_append, List.length_replicate, List.length_replicate, List.length_map]
    omega
  · unfold L2.start at h2
    by_cases hi : i < as.length
    · rw [List.getElem?_append_left hi] at h1
      rw [List.getElem?_append_left (by rw [List.length_map]; omega), List.getElem?_map] at h2
      obtain ⟨v, e, q⟩ := ha.get h1
      rw [e] at h2
      cases h2
      cases s with
      | val d => exact ⟨v, rfl, q⟩
      | mug =>
        obtain ⟨a, e1, e2⟩ := q
        exact ⟨a, e1, by rw [e2]⟩
      | no => trivial
      | own _ => exact q.elim
      | exn _ _ _ _ => exact q.elim
    · rw [List.getElem?_append_right (by omega), List.getElem?_replicate] at h1
      split at h1
      · cases h1; trivial
      · cases h1
  · obtain ⟨vs, q1, q2, _⟩ := hm a e
    exact ⟨q2, _, q1⟩

/-- a def keeps its promise, by its body -/
theorem fnG_of {P : Program} {w : World} {K : PySem.W.Frag} {mg : Str → Option Value} {base : Heap} {k : Nat} {f : Addr} {fd : FuncData} {qual x : Str} {st : Stmt} {N ps : List Str} {m : SM} (Fu : Fun K x qual st f fd) (S : FnScope N ps (defScope st))
    (hbody : ∀ (cdv : Value) (A : Around) (outer : List Env) (s : Shared) (H : Hp) (E : XK), Room k (A.deeper (envOfC qual (defScope st) s.heap.objs.size f cdv)) → A.guards = some [] →
      DSs (cxOf (L2.CX P w) P w K mg base N qual (defScope st) f cdv A outer s H E) (fun cls d _ H => E cls d H) (defBody st) m) :
    FnG P w K mg base (k + 1) f fd ps (bodyM N.length m) := by
  obtain ⟨oc, od, kV, doc, pm, an, cdv, ct, osl, rfl, lk, hcd⟩ := Fu.ex
  constructor
  intro A outer s H args us vs Q E room guards e0 hb rel hsp
  obtain ⟨hl, mgm, mu, F, as, ha, hm, hf, hw⟩ := hsp
  have hpN : ps.length ≤ N.length := by
    have q := congrArg List.length S.pre
    rw [List.length_take] at q
    omega
  have kin : K.In s.heap := e0.mod.kin.keeps fun b o q => (e0.bs b o q).1
  have nolim : s.heap.NoLimit := e0.mod.nolimit.keeps fun b o q => (e0.bs b o q).1
  refine codeAny_call_function room.depth (kin _ _ lk) rfl S.co S.gen rfl (PySem.W.codeRec_of kin hcd) (hb _ _ _ _ ?_)
  refine wpAny_newFunctionEnv_cells S.kind (fun ⟨n, v⟩ hy => ?_) fun env he s1 xx => ?_
  · rcases S.par n (List.of_mem_zip hy).1 with q | q
    · exact .inl q
    · exact .inr ⟨q, PySem.W.cellsFrom_some _ _ _ (.inl q)⟩
  subst he
  refine ⟨nolim.keeps xx.toInCall.keep, codeAny_func ?_⟩
  have body := hbody cdv A outer s H E (room.deeper _) guards
  have inv : Inv (cxOf (L2.CX P w) P w K mg base N qual (defScope st) f cdv A outer s H E) [] (L2.start N vs) H s1 := inv_start S room.hd e0 hl rel xx
  have rl := rel_start (N := N) (by omega) ha hm hf
  have reading : tS K mg (fun cls d _ H => E cls d H) m { nx := fun _ H' => Q .non H', rt := Q } (L2.start N vs) H := by
    refine ⟨H, F, mgm, _, mu, F, rl, ?_⟩
    unfold bodyM at hw
    cases q : m (as ++ List.replicate (N.length - as.length) Sl.no) mu with
    | nx g mu1 =>
      rw [q] at hw
      exact fun σ' H' F' ex r' => hw .non H' F' r'.fin .non
    | rt d mu1 =>
      rw [q] at hw
      exact fun v H' F' ex fi rp => hw v H' F' fi rp
    | bk g mu1 => rw [q] at hw; exact hw.elim
    | ct g mu1 => rw [q] at hw; exact hw.elim
    | exc c p g mu1 =>
      rw [q] at hw
      exact fun σ' H' F' cls dx ex r' x => hw H' F' cls dx r'.fin x
    | bad => rw [q] at hw; exact hw.elim
  refine wpAny_mono (body.run [] s1 (L2.start N vs) H _ inv reading) (fun fl s2 hs => ?_) fun e s2 hs => hs
  have done : ∀ {σ2 : St} {H2 : Hp} {v : V} {u : Value}, Inv (cxOf (L2.CX P w) P w K mg base N qual (defScope st) f cdv A outer s H E) [] σ2 H2 s2 → RelV v u → Q v H2 → CE outer P w H s Q u s2 :=
    fun {σ2 H2 v u} J rv q => ⟨v, H2, J.os, J.bare, J.base, J.hok, rv, q⟩
  cases fl with
  | ret u =>
    obtain ⟨v, σ2, H2, J, rv, q⟩ := hs
    exact done J rv q
  | next =>
    obtain ⟨σ2, H2, J, q⟩ := hs
    exact done (v := V.non) (u := Value.none) J rfl q
  | brk => exact hs.elim fun _ z => z.elim fun _ z => z.2.elim
  | cont => exact hs.elim fun _ z => z.elim fun _ z => z.2.elim

/-! ### calls -/
def tCallG (sp : Sp) (W : WX) (t : TA) : TE := fun σ H Q => t σ H fun vs H1 => sp vs H1 Q (fun cls d H' => W cls d σ H')
section
variable {X : Cx} {W : WX} {k : Nat} {f : Addr} {fd : FuncData} {ps : List Str} {fm : FM} {x : Str} {p pos : Pos} {e : Expr} {es : List Expr} {t : TA}
theorem pe_callG (F : FnG X.prog X.w X.K X.mg X.base k f fd ps fm) (room : Room k X.A) (guards : X.A.guards = some []) (hg : Gl X x) (hm : X.mg x = some (.ref f)) (hk : PySem.W.keepIn X.K (.ref f) = true) (hb : Binds X.K fd ps []) (tk : Takes X W)
    (ha : PA X (e :: es) t) (hdb : (x == ("__debug__" : Str)) = false) (he : starEach (e :: es) X.env = (false, eval e X.env) :: starEach es X.env) (hpl : (backTo pos (starEach es X.env)).any (·.1) = false) :
    PE X (.Call (.Name x p) (e :: es) [] pos) (tCallG (spF X.K X.mg ps.length fm) W t) := by
  constructor
  intro pins s σ H Q I h
  refine wpAny_Call_Name_kw (ld_glob I hg hm ?_ hdb)
  refine PySem.W.callWith_K (h₀ := X.base) I.ok.mod.kin hk (thn (ha.run pos pins s σ H _ I h) fun us s1 ⟨vs, H1, J, r, q⟩ => ⟨J.kIn, ?_⟩) he hpl
  have hl : (us ++ []).length = ps.length := by rw [List.append_nil, ← r.length]; exact q.1
  have bd := hb s1 us J.kIn hl
  rw [List.append_nil] at bd
  refine wpAny_call (codeAny_mono (F.run X.A X.stack s1 H1 ⟨us, []⟩ us vs Q _ room guards J.env0 bd r q) fun res s2 hq => ?_)
  cases res with
  | error er => exact tk er s2 (XE.of_call J (fun _ _ _ z => z) hq)
  | ok fl =>
    cases fl with
    | ret u => exact J.after hq
    | next => exact hq.elim
    | brk => exact hq.elim
    | cont => exact hq.elim

/-- arguments: data, and the drawn list where it is handed on -/
abbrev BM := Gm → Mu → R (List Sl)
def bNil : BM := fun _ mu => .ok [] mu
def bCons (ma : EM) (mr : BM) : BM := fun g mu => (ma g mu).bind fun d mu1 => (mr g mu1).bind fun ss mu2 => .ok (.val d :: ss) mu2
def bMug (i : Nat) (mr : BM) : BM := fun g mu => match g[i]? with
  | some .mug => (mr g mu).bind fun ss mu2 => .ok (.mug :: ss) mu2
  | _ => .bad
def tDB (K : PySem.W.Frag) (mc : Str → Option Value) (W : WX) (m : BM) : TA := fun σ H Q => ∃ H0 F0 mg g mu F, Rel K H0 F0 mg g mu σ H F ∧
  (m g mu).wp (fun ss mu' => ∀ vs H' F', Stp K mg H F mu' H' F' → ArgsOk K mg H' F' vs ss → Q vs H')
    (fun c p mu' => ∀ H' F' cls dx, Stp K mg H F mu' H' F' → ExcIs K mc H' F' c p cls dx → W cls dx σ H')
abbrev DB (X : Cx) (W : WX) (es : List Expr) (m : BM) : Prop := PA X es (tDB X.K X.mg W m)
variable {ma : EM} {mr : BM} {i : Nat}
theorem db_nil : DB X W [] bNil := PA_imp pa_nil fun σ H Q ⟨H0, F0, mg, g, mu, F, rl, h⟩ => h _ H F (.refl rl.mug) .nil
theorem db_cons (ha : DE X W e ma) (hr : DB X W es mr) (hs : starEach (e :: es) X.env = (false, eval e X.env) :: starEach es X.env) : DB X W (e :: es) (bCons ma mr) := by
  refine PA_imp (pa_cons ha hr hs) fun σ H Q ⟨H0, F0, mg, g, mu, F, rl, h⟩ => ?_
  refine tD_seq rl h (fun c p mu' hE => hE) fun d mu1 v H1 F1 st rp h1 => ?_
  have rl1 := rl.step st
  refine ⟨H0, F0, mg, g, mu1, F1, rl1, R.wp_mono (R.wp_bind.mp h1) (fun ss mu2 h2 vs H2 F2 st2 aa => ?_) fun c p mu' hE H' F' cls dx st' x => hE H' F' cls dx (st.trans st') x⟩
  exact h2 _ H2 F2 (st.trans st2) (.cons (rp.ext (rl1.ext st2) d v) aa)
theorem db_mug (hN : X.N[i]? = some x) (hv : Vis X.env.scope x) (hd : (x == ("__debug__" : Str)) = false) (hcd : (x == ("__classdict__" : Str)) = false) (hr : DB X W es mr)
    (hs : starEach (.Name x p :: es) X.env = (false, eval (.Name x p) X.env) :: starEach es X.env) : DB X W (.Name x p :: es) (bMug i mr) := by
  refine PA_imp (pa_cons (pe_var hN hv hd hcd) hr hs) fun σ H Q ⟨H0, F0, mg, g, mu, F, rl, h⟩ => ?_
  unfold bMug at h
  split at h
  · rename_i q
    obtain ⟨o, h2⟩ := rl.some_of q
    obtain ⟨a, hm, e⟩ := rl.slot i _ _ q h2
    subst e
    refine ⟨_, h2, H0, F0, mg, g, mu, F, rl, R.wp_mono (R.wp_bind.mp h) (fun ss mu2 h2 vs H2 F2 st2 aa => ?_) fun c p mu' hE => hE⟩
    exact h2 _ H2 F2 st2 (.cons ⟨a, hm, rfl⟩ aa)
  · exact h.elim

/-- a call of a def that is given data alone -/
def eFn (fm : FM) (m : BM) : EM := fun g mu => (m g mu).bind fun ss mu1 => match fm ss [] with
  | .ok d _ => .ok d mu1
  | .exc c p _ => .exc c p mu1
  | .bad => .bad
/-- .. that is given the drawn list, too -/
def eFnM (fm : FM) (m : BM) : EM := fun g mu => (m g mu).bind fun ss mu1 => fm ss mu1
def noMug : List Sl → Bool
  | [] => true
  | .mug :: _ => false
  | _ :: r => noMug r
theorem ArgsOk.noMug {K : PySem.W.Frag} {mg : Option Addr} {H : Hp} {F : Fz} : ∀ {vs : List V} {ss : List Sl}, ArgsOk K mg H F vs ss → Wf.noMug ss = true → ArgsOk K none H F vs ss
  | _, _, .nil, _ => .nil
  | _, .val d :: _, .cons r t, h => .cons r (ArgsOk.noMug t h)
  | _, .mug :: _, .cons r t, h => by cases h
  | _, .no :: _, .cons r t, h => r.elim
  | _, .own _ :: _, .cons r t, h => r.elim
  | _, .exn _ _ _ _ :: _, .cons r t, h => r.elim
theorem stp_call {K : PySem.W.Frag} {mg : Option Addr} {H H' : Hp} {F F' : Fz} {mu mu' : Mu} (hm : MuOk K mg H F mu) (fi : Fin K H F none mu' H' F') : Stp K mg H F mu H' F' := by
  have mon : ∀ a o, H a = some o → H' a = some o := fun a o e => fi.frame a o e (by simp)
  have ex : Ext H F H' F' := ⟨fi.f0, fun a o _ e => mon a o e, fun a xs z => by
    rcases z with z | ⟨o, z⟩
    · exact .inl (mon a _ z)
    · exact .inr ⟨o, mon a _ z⟩⟩
  refine ⟨fun a o e _ => mon a o e, fi.f0, fun a z => ?_, fun a e => ?_⟩
  · rcases fi.fnew a z with w | w
    · exact .inl w
    · exact .inr ⟨w, fi.ftr a z⟩
  · obtain ⟨us, q1, q2, q3, q4⟩ := hm a e
    refine ⟨us, mon a _ q1, fun z => ?_, q3, q4.ext ex _ _⟩
    rcases fi.fnew a z with w | w
    · exact q2 w
    · rw [q1] at w; cases w
theorem stp_callM {K : PySem.W.Frag} {mg : Option Addr} {H H' : Hp} {F F' : Fz} {mu' : Mu} (fi : Fin K H F mg mu' H' F') : Stp K mg H F mu' H' F' := by
  refine ⟨fun a o e n => fi.frame a o e n, fi.f0, fun a z => ?_, fi.mug⟩
  rcases fi.fnew a z with w | w
  · exact .inl w
  · exact .inr ⟨w, fi.ftr a z⟩
theorem de_fn {mb : BM} (F : FnG X.prog X.w X.K X.mg X.base k f fd ps fm) (room : Room k X.A) (guards : X.A.guards = some []) (hg : Gl X x) (hm : X.mg x = some (.ref f)) (hk : PySem.W.keepIn X.K (.ref f) = true) (hb : Binds X.K fd ps []) (tk : Takes X W)
    (ha : DB X W (e :: es) mb) (hnum : (e :: es).length = ps.length) (hnm : ∀ g mu ss mu1, mb g mu = .ok ss mu1 → noMug ss = true ∧ ss.length = ps.length) (hdb : (x == ("__debug__" : Str)) = false) (he : starEach (e :: es) X.env = (false, eval e X.env) :: starEach es X.env)
    (hpl : (backTo pos (starEach es X.env)).any (·.1) = false) : DE X W (.Call (.Name x p) (e :: es) [] pos) (eFn fm mb) := by
  refine PE_imp (pe_callG F room guards hg hm hk hb tk ha hdb he hpl) fun σ H Q ⟨H0, F0, mg, g, mu, F, rl, h⟩ => ?_
  refine ⟨H0, F0, mg, g, mu, F, rl, ?_⟩
  unfold eFn at h
  cases q : mb g mu with
  | bad => rw [q] at h; exact h.elim
  | exc c p mu1 => rw [q] at h; exact h
  | ok ss mu1 =>
    rw [q] at h
    obtain ⟨n1, n2⟩ := hnm g mu ss mu1 q
    intro vs H1 F1 st aa
    have rl1 := rl.step st
    refine ⟨by rw [aa.length]; exact n2, none, [], F1, ss, aa.noMug n1, fun a e => (by cases e), rl1.ftr, ?_⟩
    have h : (match fm ss [] with
      | .ok d _ => (.ok d mu1 : R D)
      | .exc c p _ => .exc c p mu1
      | .bad => .bad).wp (fun d mu' => ∀ v H' F', Stp X.K mg H F mu' H' F' → Rp X.K H' F' v d → Q v H') (fun c p mu' => ∀ H' F' cls dx, Stp X.K mg H F mu' H' F' → ExcIs X.K X.mg H' F' c p cls dx → W cls dx σ H') := h
    cases q2 : fm ss [] with
    | bad => rw [q2] at h; exact h.elim
    | exc c p mu2 =>
      rw [q2] at h
      exact fun H' F' cls dx fi x => h H' F' cls dx (st.trans (stp_call rl1.mug fi)) x
    | ok d mu2 =>
      rw [q2] at h
      exact fun v H' F' fi rp => h v H' F' (st.trans (stp_call rl1.mug fi)) rp
theorem de_fnM {mb : BM} (F : FnG X.prog X.w X.K X.mg X.base k f fd ps fm) (room : Room k X.A) (guards : X.A.guards = some []) (hg : Gl X x) (hm : X.mg x = some (.ref f)) (hk : PySem.W.keepIn X.K (.ref f) = true) (hb : Binds X.K fd ps []) (tk : Takes X W)
    (ha : DB X W (e :: es) mb) (hnm : ∀ g mu ss mu1, mb g mu = .ok ss mu1 → ss.length = ps.length) (hdb : (x == ("__debug__" : Str)) = false) (he : starEach (e :: es) X.env = (false, eval e X.env) :: starEach es X.env)
    (hpl : (backTo pos (starEach es X.env)).any (·.1) = false) : DE X W (.Call (.Name x p) (e :: es) [] pos) (eFnM fm mb) := by
  refine PE_imp (pe_callG F room guards hg hm hk hb tk ha hdb he hpl) fun σ H Q ⟨H0, F0, mg, g, mu, F, rl, h⟩ => ?_
  refine ⟨H0, F0, mg, g, mu, F, rl, ?_⟩
  unfold eFnM at h
  cases q : mb g mu with
  | bad => rw [q] at h; exact h.elim
  | exc c p mu1 => rw [q] at h; exact h
  | ok ss mu1 =>
    rw [q] at h
    intro vs H1 F1 st aa
    have rl1 := rl.step st
    refine ⟨by rw [aa.length]; exact hnm g mu ss mu1 q, mg, mu1, F1, ss, aa, rl1.mug, rl1.ftr, ?_⟩
    have h : (fm ss mu1).wp (fun d mu' => ∀ v H' F', Stp X.K mg H F mu' H' F' → Rp X.K H' F' v d → Q v H') (fun c p mu' => ∀ H' F' cls dx, Stp X.K mg H F mu' H' F' → ExcIs X.K X.mg H' F' c p cls dx → W cls dx σ H') := h
    exact R.wp_mono h (fun d mu2 k v H' F' fi rp => k v H' F' (st.trans (stp_callM fi)) rp) fun c p mu2 k H' F' cls dx fi x => k H' F' cls dx (st.trans (stp_callM fi)) x

/-! f(g(..), ..), g's list new: f is given it as its drawn list -/
def scrOrLf : Sl → Bool
  | .val (.dict [(.none, .list ds)]) => lfA ds
  | .val d => lf d
  | _ => false
def eFnNew (ff fgm : FM) (m : BM) : EM := fun g mu => (m g mu).bind fun ss mu1 => if ss.all scrOrLf = true then (match fgm ss [] with
  | .ok (.list ds) _ => if lfA ds = true then (match ff [.mug] ds with
    | .ok d _ => .ok d mu1
    | _ => .bad) else .bad
  | _ => .bad) else .bad
theorem ArgOk.few {K : PySem.W.Frag} {mg : Option Addr} {H : Hp} {F : Fz} : ∀ {v : V} {s : Sl}, ArgOk K mg H F v s → scrOrLf s = true → ArgOk K none H (fun a => F a ∧ ∃ o u, H a = some (.frz o u)) v s := by
  intro v s h hs
  cases s with
  | val d =>
    cases h with
    | @scr _ _ _ ds hf hx ra =>
      have hs : lfA ds = true := hs
      exact .scr ⟨hf, _, _, hx⟩ hx (ra.free _ _ hs)
    | @scrK _ _ ds hk ra =>
      have hs : lfA ds = true := hs
      exact .scrK hk (ra.free _ _ hs)
    | non => exact .non
    | bl b => exact .bl b
    | int i => exact .int i
    | str x => exact .str x
    | @tup _ _ ds hx ra =>
      have hs : lf (PyData.tuple ds) = true := hs
      exact .tup hx (ra.free _ _ (by simpa only [lf] using hs))
    | @lst _ _ ds hf hx ra =>
      have hs : lf (PyData.list ds) = true := hs
      simp only [lf] at hs
      cases hs
    | dic hf hx =>
      have hs : lf (PyData.dict []) = true := hs
      simp only [lf] at hs
      cases hs
  | mug => cases hs
  | no => cases hs
  | own _ => cases hs
  | exn _ _ _ _ => cases hs
theorem ArgsOk.few {K : PySem.W.Frag} {mg : Option Addr} {H : Hp} {F : Fz} : ∀ {vs : List V} {ss : List Sl}, ArgsOk K mg H F vs ss → ss.all scrOrLf = true → ArgsOk K none H (fun a => F a ∧ ∃ o u, H a = some (.frz o u)) vs ss
  | _, _, .nil, _ => .nil
  | _, _, .cons r t, h => by
    rw [List.all_cons, Bool.and_eq_true] at h
    exact .cons (r.few h.1) (ArgsOk.few t h.2)
section
variable {X : Cx} {W : WX} {k k2 : Nat} {f f2 : Addr} {fd fd2 : FuncData} {ps ps2 : List Str} {ff fgm : FM} {x y : Str} {p p2 pos pos2 : Pos} {e : Expr} {es : List Expr} {mb : BM}
theorem de_fnNew (Ff : FnG X.prog X.w X.K X.mg X.base k f fd ps ff) (room : Room k X.A) (hg : Gl X x) (hm : X.mg x = some (.ref f)) (hk : PySem.W.keepIn X.K (.ref f) = true) (hb : Binds X.K fd ps []) (hp1 : ps.length = 1)
    (Fg : FnG X.prog X.w X.K X.mg X.base k2 f2 fd2 ps2 fgm) (room2 : Room k2 X.A) (hg2 : Gl X y) (hm2 : X.mg y = some (.ref f2)) (hk2 : PySem.W.keepIn X.K (.ref f2) = true) (hb2 : Binds X.K fd2 ps2 []) (guards : X.A.guards = some []) (tk : Takes X W0)
    (ha : DB X W0 (e :: es) mb) (hnm : ∀ g mu ss mu1, mb g mu = .ok ss mu1 → ss.length = ps2.length) (hdb : (x == ("__debug__" : Str)) = false) (hdb2 : (y == ("__debug__" : Str)) = false)
    (he : starEach (e :: es) X.env = (false, eval e X.env) :: starEach es X.env) (hpl : (backTo pos2 (starEach es X.env)).any (·.1) = false) :
    DE X W0 (.Call (.Name x p) [.Call (.Name y p2) (e :: es) [] pos2] [] pos) (eFnNew ff fgm mb) := by
  refine PE_imp (pe_callG (pos := pos) Ff room guards hg hm hk hb tk (pa_cons (pe_callG Fg room2 guards hg2 hm2 hk2 hb2 tk ha hdb2 he hpl) pa_nil rfl) hdb rfl rfl) fun σ H Q ⟨H0, F0, mg, g, mu, F, rl, h⟩ => ?_
  refine ⟨H0, F0, mg, g, mu, F, rl, ?_⟩
  unfold eFnNew at h
  cases qm : mb g mu with
  | bad => rw [qm] at h; exact h.elim
  | exc c p mu1 => rw [qm] at h; exact h
  | ok ss mu1 =>
  rw [qm] at h
  intro vs H1 F1 st aa
  have h1 : (if ss.all scrOrLf = true then (match fgm ss [] with
  | .ok (.list ds) _ => if lfA ds = true then (match ff [.mug] ds with
    | .ok d _ => .ok d mu1
    | _ => .bad) else .bad
  | _ => .bad) else (.bad : R D)).wp (fun d mu' => ∀ v H' F', Stp X.K mg H F mu' H' F' → Rp X.K H' F' v d → Q v H') (fun c p mu' => ∀ H' F' cls dx, Stp X.K mg H F mu' H' F' → ExcIs X.K X.mg H' F' c p cls dx → W0 cls dx σ H') := h
  split at h1
  · rename_i cs
    cases q : fgm ss [] with
    | bad => rw [q] at h1; exact h1.elim
    | exc c p mu2 => rw [q] at h1; exact h1.elim
    | ok dl mu2 =>
      rw [q] at h1
      cases dl with
      | list ds =>
        have h1 : (if lfA ds = true then (match ff [.mug] ds with
            | .ok d _ => (.ok d mu1 : R D)
            | _ => .bad) else .bad).wp (fun d mu' => ∀ v H' F', Stp X.K mg H F mu' H' F' → Rp X.K H' F' v d → Q v H') (fun c p mu' => ∀ H' F' cls dx, Stp X.K mg H F mu' H' F' → ExcIs X.K X.mg H' F' c p cls dx → W0 cls dx σ H') := h1
        split at h1
        · rename_i cl
          have rl1 := rl.step st
          have al : vs.length = ps2.length := by rw [aa.length]; exact hnm _ _ _ _ qm
          refine ⟨al, none, [], fun a => F1 a ∧ ∃ o u, H1 a = some (.frz o u), ss, aa.few cs, fun a e => (by cases e), fun a z => rl1.ftr a z.1, ?_⟩
          rw [q]
          intro v H2 F2 fi rp
          cases rp with
          | @lst a xs _ hf hx ra =>
          have mon1 : ∀ b o, H1 b = some o → H2 b = some o := fun b o z => fi.frame b o z (by simp)
          have h1a : H1 a = none := by
            rcases fi.fnew a hf with ⟨_, o, u, z⟩ | z
            · rw [mon1 a _ z] at hx; cases hx
            · exact z
          have nF1 : ¬ F1 a := fun z => by
            obtain ⟨o, z⟩ := rl1.ftr a z
            rw [h1a] at z; cases z
          have mok : MuOk X.K (some a) H2 F1 ds := fun b e => by
            injection e with e
            subst e
            exact ⟨xs, hx, nF1, cl, ra.free _ _ cl⟩
          refine ⟨by rw [hp1]; rfl, some a, ds, F1, [.mug], .cons ⟨a, rfl, rfl⟩ .nil, mok, fun b z => ?_, ?_⟩
          · obtain ⟨o, z2⟩ := rl1.ftr b z
            exact ⟨o, mon1 b o z2⟩
          · cases q2 : ff [.mug] ds with
            | bad => rw [q2] at h1; exact h1.elim
            | exc c p mu3 => rw [q2] at h1; exact h1.elim
            | ok d mu3 =>
              rw [q2] at h1
              intro v3 H3 F3 fi3 rp3
              have mon2 : ∀ b o, H1 b = some o → H3 b = some o := fun b o z => fi3.frame b o (mon1 b o z) fun w => by
                injection w with w
                subst w
                rw [h1a] at z; cases z
              have st3 : Stp X.K mg H1 F1 mu1 H3 F3 := by
                refine ⟨fun b o z _ => mon2 b o z, fi3.f0, fun b z => ?_, fun b z => ?_⟩
                · rcases fi3.fnew b z with w | w
                  · exact .inl w
                  · refine .inr ⟨?_, fi3.ftr b z⟩
                    cases u : H1 b with
                    | none => rfl
                    | some o =>
                      rw [mon1 b o u] at w; cases w
                · obtain ⟨us, q1, q2, q3, q4⟩ := rl1.mug b z
                  have ex : Ext H1 F1 H3 F3 := ⟨fi3.f0, fun a o _ e => mon2 a o e, fun a xs z => by
                    rcases z with z | ⟨o, z⟩
                    · exact .inl (mon2 a _ z)
                    · exact .inr ⟨o, mon2 a _ z⟩⟩
                  refine ⟨us, mon2 b _ q1, fun w => ?_, q3, q4.ext ex _ _⟩
                  rcases fi3.fnew b w with w | w
                  · exact q2 w
                  · rw [mon1 b _ q1] at w; cases w
              exact h1 v3 H3 F3 (st.trans st3) rp3
        · exact h1.elim
      | _ => exact h1.elim
  · exact h1.elim

/-! ### keywords -/
abbrev DK (X : Cx) (W : WX) (kws : List Keyword) (m : BM) : Prop := PK X kws (tDB X.K X.mg W m)
variable {kws : List Keyword} {ma : EM} {mr mk : BM} {nm : Option Str} {kpos : Pos} {ks : List Str}
theorem dk_nil : DK X W [] bNil := ⟨fun pos pins s σ H Q I ⟨H0, F0, mg, g, mu, F, rl, h⟩ => pk_nil.run pos pins s σ H Q I (h _ H F (.refl rl.mug) .nil)⟩
theorem dk_cons (ha : DE X W e ma) (hr : DK X W kws mr) : DK X W (⟨nm, e, kpos⟩ :: kws) (bCons ma mr) := by
  refine ⟨fun pos pins s σ H Q I ⟨H0, F0, mg, g, mu, F, rl, h⟩ => (pk_cons ha hr).run pos pins s σ H Q I ?_⟩
  refine tD_seq rl h (fun c p mu' hE => hE) fun d mu1 v H1 F1 st rp h1 => ?_
  have rl1 := rl.step st
  refine ⟨H0, F0, mg, g, mu1, F1, rl1, R.wp_mono (R.wp_bind.mp h1) (fun ss mu2 h2 vs H2 F2 st2 aa => ?_) fun c p mu' hE H' F' cls dx st' x => hE H' F' cls dx (st.trans st') x⟩
  exact h2 _ H2 F2 (st.trans st2) (.cons (rp.ext (rl1.ext st2) d v) aa)
/-- how keywords alone bind: in the parameters' order -/
def KwBinds (fd : FuncData) (ps : List Str) : Prop := ∀ (s : Shared) (ws : List Value), ws.length = ps.length → BindsTo s fd ⟨[], ps.zip ws⟩ (ps.zip ws)
/-- f(k = v, ..) -/
theorem de_fnK (F : FnG X.prog X.w X.K X.mg X.base k f fd ps ff) (room : Room k X.A) (guards : X.A.guards = some []) (hg : Gl X x) (hm : X.mg x = some (.ref f)) (hk : PySem.W.keepIn X.K (.ref f) = true) (hb : KwBinds fd ps) (tk : Takes X W)
    (hkw : DK X W kws mk) (hnm : ∀ g mu ss mu1, mk g mu = .ok ss mu1 → noMug ss = true ∧ ss.length = ps.length) (hall : (backToKw pos (keywordEach kws X.env)).all (·.1.isSome) = true)
    (hks : (backToKw pos (keywordEach kws X.env)).filterMap (·.1) = ps) (hdb : (x == ("__debug__" : Str)) = false)
    (hpl : ((backTo pos (starEach [] X.env)).any (·.1) || (backToKw pos (keywordEach kws X.env)).any (·.1.isNone)) = false) : DE X W (.Call (.Name x p) [] kws pos) (eFn ff mk) := by
  constructor
  intro pins s σ H Q I ⟨H0, F0, mg, g, mu, F', rl, h⟩
  refine wpAny_Call_Name_kw (ld_glob I hg hm ?_ hdb)
  refine PySem.W.callWith_KW0 (h₀ := X.base) I.ok.mod.kin hk hall (thn (hkw.run pos pins s σ H (fun vs H1 => spF X.K X.mg ps.length ff vs H1 Q fun cls d H' => W cls d σ H') I ⟨H0, F0, mg, g, mu, F', rl, ?_⟩) fun ws s1 ⟨zs, H1, J, r, q⟩ => ⟨J.kIn, ?_⟩) hpl
  · unfold eFn at h
    cases q : mk g mu with
    | bad => rw [q] at h; exact h.elim
    | exc c p mu1 => rw [q] at h; exact h
    | ok ss mu1 =>
      rw [q] at h
      obtain ⟨n1, n2⟩ := hnm g mu ss mu1 q
      intro vs H1 F1 st aa
      have rl1 := rl.step st
      refine ⟨by rw [aa.length]; exact n2, none, [], F1, ss, aa.noMug n1, fun a e => (by cases e), rl1.ftr, ?_⟩
      have h : (match ff ss [] with
        | .ok d _ => (.ok d mu1 : R D)
        | .exc c p _ => .exc c p mu1
        | .bad => .bad).wp (fun d mu' => ∀ v H' F2, Stp X.K mg H F' mu' H' F2 → Rp X.K H' F2 v d → Q v H') (fun c p mu' => ∀ H' F2 cls dx, Stp X.K mg H F' mu' H' F2 → ExcIs X.K X.mg H' F2 c p cls dx → W cls dx σ H') := h
      cases q2 : ff ss [] with
      | bad => rw [q2] at h; exact h.elim
      | exc c p mu2 =>
        rw [q2] at h
        exact fun H' F2 cls dx fi x => h H' F2 cls dx (st.trans (stp_call rl1.mug fi)) x
      | ok d mu2 =>
        rw [q2] at h
        exact fun v H' F2 fi rp => h v H' F2 (st.trans (stp_call rl1.mug fi)) rp
  · rw [hks]
    have hl : ws.length = ps.length := by rw [← r.length]; exact q.1
    refine wpAny_call (codeAny_mono (F.run X.A X.stack s1 H1 ⟨[], ps.zip ws⟩ ws zs Q _ room guards J.env0 (hb s1 ws hl) r q) fun res s2 hq => ?_)
    cases res with
    | error er => exact tk er s2 (XE.of_call J (fun _ _ _ z => z) hq)
    | ok fl =>
      cases fl with
      | ret u => exact J.after hq
      | next => exact hq.elim
      | brk => exact hq.elim
      | cont => exact hq.elim
end
end
end Wf
/-! W10: raise, try, the drawn list's items. -/
namespace Wf
open PySem L2
open PyProof.Rows (envOfC)

/-! ### an exception class with one field -/
/-- X.__init__(self, f): self.f = f -/
def spI (K : PySem.W.Frag) (f : Str) : Sp := fun vs H Q _ => ∃ (a C : Addr) (v : V), vs = [.ref a, v] ∧ OexC K C ∧ PySem.W.findIn K (.ref C) f = some none ∧ H a = some (exo a C none) ∧
  ∀ dx, H dx = none → dx ≠ a → Q .non (upd (upd H dx (exd dx [(f, v)])) a (exo a C (some dx)))
theorem exi_ok {P : Program} {w : World} {K : PySem.W.Frag} {mg : Str → Option Value} {base : Heap} {fI : Addr} {fd : FuncData} {x qual f : Str} {st : Stmt} (Fu : Fun K x qual st fI fd) (S : FnScope ["self", f] ["self", f] (defScope st))
    (hb : ∀ (cdv : Value) (A : Around) (outer : List Env) (s : Shared) (H : Hp) (E : XK), PSs (cxOf CX0 P w K mg base ["self", f] qual (defScope st) fI cdv A outer s H E).nox (defBody st) (tOst K f (tVar 0) (tVar 1))) :
    FnOk P w K mg base CX0 1 fI fd ["self", f] (spI K f) := by
  refine Fu.ok S (fun vs H Q E h => ?_) fun cdv A outer s H vs Q E hr h => ⟨_, hb cdv A outer s H E, ?_⟩
  · obtain ⟨a, C, v, rfl, _⟩ := h
    rfl
  · obtain ⟨a, C, v, rfl, T, hn, ha, k⟩ := h
    exact ⟨v, rfl, .ref a, rfl, a, C, rfl, T, hn, .inl ⟨ha, fun dx n ne => k dx n ne⟩⟩
structure ExC (P : Program) (w : World) (K : PySem.W.Frag) (mg : Str → Option Value) (base : Heap) (c f : Str) (C fI : Addr) (fd : FuncData) : Prop where
  g : mg c = some (.ref C)
  T : OexC K C
  no : PySem.W.findIn K (.ref C) f = some none
  iC : PySem.W.findIn K (.ref C) "__init__" = some (some (.ref fI))
  tI : PySem.W.typeIn K (.ref fI) = some (.type "function")
  F1 : FnOk P w K mg base CX0 1 fI fd ["self", f] (spI K f)
  b : Binds K fd ["self", f] []
def sRaise (c f : Str) (m : EM) : SM := fun g mu => (m g mu).toS g fun d mu1 => .exc c (some (f, d)) g mu1
section
variable {X : Cx} {W : WX} {c f : Str} {C fI : Addr} {fd : FuncData} {e : Expr} {m : EM} {p pos pos2 : Pos}
theorem ds_raise (hc : X.calm = true) (tk : Takes X W) (E : ExC X.prog X.w X.K X.mg X.base c f C fI fd) (hr : Room 2 X.A) (hg : Gl X c) (ha : DE X W e m) (hdb : (c == ("__debug__" : Str)) = false) (he : starEach [e] X.env = [(false, eval e X.env)]) :
    DS X W (.Raise (some (.Call (.Name c p) [e] [] pos)) none pos2) (sRaise c f m) := by
  have he' : starEach [e] X.env = (false, eval e X.env) :: starEach [] X.env := he
  refine PS_imp (ps_raise hc tk (pmk_oex E.T E.iC E.tI E.F1 hr E.b .nil (fun _ _ _ _ _ _ _ z => z.elim) hg E.g (pa_cons ha pa_nil he') hdb he' rfl)) fun Dn σ H ⟨H0, F0, mg, g, mu, F, r, h⟩ => ?_
  refine tD_S r h fun d mu1 v H1 F1 ex r1 st rp k => ?_
  refine ⟨by show 1 ≤ 1000; decide, fun a ha => ?_⟩
  refine ⟨a, C, v, rfl, E.T, E.no, upd_same, fun dx hn ne => ⟨rfl, dx, [(f, v)], upd_same, by rw [upd_ne ne, upd_same], ?_, ?_⟩⟩
  · rw [upd_ne ne] at hn; exact hn
  · have hdx : H1 dx = none := by rw [upd_ne ne] at hn; exact hn
    generalize hH : upd (del (upd (upd (upd H1 a (exo a C none)) dx (exd dx [(f, v)])) a (exo a C (some dx))) a) dx (HO.xd [(f, v)]) = H2
    have mon : ∀ b o, H1 b = some o → H2 b = some o := fun b o z => by
      rw [← hH]
      have n1 : b ≠ dx := fun w => by rw [w, hdx] at z; cases z
      have n2 : b ≠ a := fun w => by rw [w, ha] at z; cases z
      rw [upd_ne n1, del_ne n2, upd_ne n2, upd_ne n1, upd_ne n2]
      exact z
    have st2 : Stp X.K mg H1 F1 mu1 H2 F1 := by
      have ex2 : Ext H1 F1 H2 F1 := ⟨fun _ z => z, fun b o _ z => mon b o z, fun b xs z => by
        rcases z with z | ⟨o, z⟩
        · exact .inl (mon b _ z)
        · exact .inr ⟨o, mon b _ z⟩⟩
      refine ⟨fun b o z _ => mon b o z, fun _ z => z, fun _ z => .inl z, fun b z => ?_⟩
      obtain ⟨us, q1, q2, q3, q4⟩ := r1.mug b z
      exact ⟨us, mon b _ q1, q2, q3, q4.ext ex2 _ _⟩
    refine k σ H2 F1 (.ref C) (some dx) (r1.ext st2) (r1.step st2) ⟨C, E.g, rfl, dx, v, rfl, ?_, rp.ext (r1.ext st2) d v⟩
    rw [← hH, upd_same]
end

/-! ### try: body, except c as x: suite -/
/-- mt: whether the clause takes a class; ms c a dx: the suite, an exception of the class c at a, its dict at dx -/
def sTryAs (i : Nat) (mt : Str → Option Bool) (body : SM) (ms : Str → Addr → Option Addr → SM) : SM := fun g mu => match body g mu with
  | .exc c p g1 mu1 => match mt c with
    | some true => (match ms c 0 none (g1.set i (.exn c p 0 none)) mu1 with
      | .rt d mu2 => .rt d mu2
      | _ => .bad)
    | some false => .exc c p g1 mu1
    | none => .bad
  | r => r
/-- a suite that returns: where the exception stands does not matter -/
def Placed (i : Nat) (ms : Str → Addr → Option Addr → SM) : Prop := ∀ (c : Str) (p : Option (Str × D)) (a : Addr) (dx : Option Addr) (g : Gm) (mu : Mu) (d : D) (mu' : Mu), ms c 0 none (g.set i (.exn c p 0 none)) mu = .rt d mu' → ms c a dx (g.set i (.exn c p a dx)) mu = .rt d mu'
section
variable {X : Cx} {W : WX} {x n : Str} {cT : Value} {i : Nat} {body suite : List Stmt} {b0 : Stmt} {np pos pos' : Pos} {mb : SM} {ms : Str → Addr → Option Addr → SM} {mt : Str → Option Bool}
theorem Rel.setExn {K : PySem.W.Frag} {H0 H : Hp} {F0 F : Fz} {mg : Option Addr} {g : Gm} {mu : Mu} {σ : St} (r : Rel K H0 F0 mg g mu σ H F) {i : Nat} {c : Str} {p : Option (Str × D)} {a : Addr} {dx : Option Addr}
    (hp : match p with | none => True | some (f, d) => ∃ x v, dx = some x ∧ H x = some (.xd [(f, v)]) ∧ Rp K H F v d) : Rel K H0 F0 mg (g.set i (.exn c p a dx)) mu (σ.set i (some (.ref a))) H F := by
  have ne : ∀ {k : Nat} {es : List D}, (g.set i (.exn c p a dx))[k]? = some (.own es) → i ≠ k := fun {k es} h e => by
    subst e
    have hi : i < g.length := by
      have := (List.getElem?_eq_some_iff.mp h).1
      simpa using this
    rw [List.getElem?_set_self hi] at h; cases h
  refine ⟨by simpa using r.len, fun j s o h1 h2 => ?_, fun j k ds es a h1 h2 h3 h4 => ?_, fun j ds a h1 h2 => ?_, r.f0, r.fnew, r.ftr, r.frame, r.mug, r.mu0⟩
  · by_cases e : i = j
    · subst e
      have hi : i < g.length := by
        have := (List.getElem?_eq_some_iff.mp h1).1
        simpa using this
      rw [List.getElem?_set_self hi] at h1
      rw [List.getElem?_set_self (by rw [← r.len]; exact hi)] at h2
      cases h1
      cases h2
      exact ⟨rfl, hp⟩
    · rw [List.getElem?_set_ne e] at h1 h2
      exact r.slot j s o h1 h2
  · have n1 := ne h1
    have n2 := ne h2
    rw [List.getElem?_set_ne n1] at h1 h3
    rw [List.getElem?_set_ne n2] at h2 h4
    exact r.inj j k ds es a h1 h2 h3 h4
  · have n1 := ne h1
    rw [List.getElem?_set_ne n1] at h1 h2
    exact r.owf j ds a h1 h2
theorem ds_tryAs (hs : X.stack = X.env :: X.outer) (hf : X.env.frame = some X.env.locals) (hN : X.N.Nodup) (hi : X.N[i]? = some n) (hln : X.env.kindOf n = some .local) (hc : Names X x cT) (tk : Takes X W)
    (hmt : ∀ c C b, X.mg c = some (.ref C) → mt c = some b → PySem.W.exmOne X.K (.ref C) cT = some b) (hpl : Placed i ms)
    (hb : ∀ (W' : WX) (pn : List (Addr × Obj)) (xe : Value → Shared → Prop), Takes (X.tr pn xe) W' → PassesOwn (model X.prog X.w) X.A X.env xe → DSs (X.tr pn xe) W' body mb)
    (hsu : ∀ (a : Addr) (oe : Obj) (d : Option Addr) (pn : List (Addr × Obj)) (c : Str) (C : Addr), Zc (.ref C) d oe → (∃ vs, oe.data = .fields vs) → X.mg c = some (.ref C) → mt c = some true → DSs (X.suite a ((a, oe) :: pn)) W0 (b0 :: suite) (ms c a d)) :
    DS X W (.Try body [.ExceptHandler (some (.Name x np)) (some n) (b0 :: suite) pos'] [] [] pos) (sTryAs i mt mb ms) := by
  refine PS_imp (ps_try_as (tb := fun W' => tS X.K X.mg W' mb) (ts := fun a cls d Dn σ H => ∃ c C, X.mg c = some (.ref C) ∧ cls = .ref C ∧ mt c = some true ∧ tS X.K X.mg W0 (ms c a d) Dn σ H) hs hf hN hi hln hc tk hb
    (fun a oe cls d pn hz hfl => ⟨fun pins s σ H Dn I ⟨c, C, h1, h2, h3, h4⟩ => by subst h2; exact (hsu a oe d pn c C hz hfl h1 h3).run pins s σ H Dn I h4⟩)) fun Dn σ H ⟨H0, F0, mg, g, mu, F, r, h⟩ => ?_
  refine ⟨H0, F0, mg, g, mu, F, r, ?_⟩
  unfold sTryAs at h
  cases q : mb g mu with
  | nx g1 mu1 => rw [q] at h; exact h
  | rt d mu1 => rw [q] at h; exact h
  | bk g1 mu1 => rw [q] at h; exact h
  | ct g1 mu1 => rw [q] at h; exact h
  | bad => rw [q] at h; exact h.elim
  | exc c p g1 mu1 =>
    rw [q] at h
    dsimp only at h
    intro σ1 H1 F1 cls dx ex r1 xc
    obtain ⟨C, hC, hcl, hp⟩ := id xc
    subst hcl
    cases q2 : mt c with
    | none => rw [q2] at h; exact h.elim
    | some b =>
      rw [q2] at h
      refine ⟨b, hmt c C b hC q2, fun eb a ha => ?_, fun eb => ?_⟩
      · subst eb
        dsimp only at h
        refine ⟨c, C, hC, rfl, q2, H0, F0, mg, g1.set i (.exn c p a dx), mu1, F1, r1.setExn ?_, ?_⟩
        · cases p with
          | none => trivial
          | some fd =>
            obtain ⟨y, v, e1, e2, e3⟩ := hp
            exact ⟨y, v, e1, e2, e3⟩
        · cases q3 : ms c 0 none (g1.set i (.exn c p 0 none)) mu1 with
          | rt d mu' =>
            rw [q3] at h
            rw [hpl c p a dx g1 mu1 d mu' q3]
            exact fun v H' F' ex' fi rp => h v H' F' (ex.trans ex') fi rp
          | nx _ _ => rw [q3] at h; exact h.elim
          | bk _ _ => rw [q3] at h; exact h.elim
          | ct _ _ => rw [q3] at h; exact h.elim
          | exc _ _ _ _ => rw [q3] at h; exact h.elim
          | bad => rw [q3] at h; exact h.elim
      · subst eb
        exact h σ1 H1 F1 _ dx ex r1 xc
/-- the caught exception's field, in the suite -/
def eExn (i : Nat) (f : Str) (a : Addr) (dx : Option Addr) : EM := fun g mu => match g[i]? with
  | some (.exn _ (some (f', d)) a' dx') => if f' = f ∧ a' = a ∧ dx' = dx then .ok d mu else .bad
  | _ => .bad
theorem de_exn {a C : Addr} {oe : Obj} {d : Option Addr} {pn : List (Addr × Obj)} {f : Str} {p2 : Pos} (T : XfC X.K C) (hno : PySem.W.findIn X.K (.ref C) f = some none) (hz : Zc (.ref C) d oe) (hfl : ∃ vs, oe.data = .fields vs)
    (hN : X.N[i]? = some x) (hv : Vis X.env.scope x) (hd : (x == ("__debug__" : Str)) = false) (hcd : (x == ("__classdict__" : Str)) = false) (hb : attributeBase (.Name x p2) f X.env (eval (.Name x p2) X.env) = eval (.Name x p2) X.env) :
    DE (X.suite a ((a, oe) :: pn)) W0 (.Attribute (.Name x p2) f pos) (eExn i f a d) := by
  refine PE_imp (pe_xf T hno hz hfl (pe_var (X := X.suite a ((a, oe) :: pn)) hN hv hd hcd) hb) fun σ H Q ⟨H0, F0, mg, g, mu, F, r, h⟩ => ?_
  unfold eExn at h
  split at h
  · rename_i c f' dd a' dx' q
    split at h
    · rename_i e
      obtain ⟨e1, e2, e3⟩ := e
      subst e1
      subst e2
      subst e3
      obtain ⟨o, h2⟩ := r.some_of q
      obtain ⟨e4, y, v, e5, q1, q2⟩ := r.slot i _ _ q h2
      subst e4
      exact ⟨_, h2, rfl, rfl, y, [(f', v)], v, e5, q1, by simp, h v H F (.refl r.mug) q2⟩
    · exact h.elim
  · exact h.elim

/-! ### the drawn list's items -/
def eMug (i k : Nat) : EM := fun g mu => match g[i]? with
  | some .mug => (match mu[k]? with
    | some d => .ok d mu
    | none => .bad)
  | _ => .bad
theorem de_mug {k kk : Nat} {p1 p2 : Pos} (hN : X.N[i]? = some x) (hv : Vis X.env.scope x) (hd : (x == ("__debug__" : Str)) = false) (hcd : (x == ("__classdict__" : Str)) = false) :
    DE X W (.Subscript (.Name x p1) (.Constant (.int (k : Nat)) kk p2) pos) (eMug i k) := by
  refine PE_imp (pe_ix ix_list (pe_var hN hv hd hcd) pe_int (fun _ _ => rfl)) fun σ H Q ⟨H0, F0, mg, g, mu, F, r, h⟩ => ?_
  unfold eMug at h
  split at h
  · rename_i q
    split at h
    · rename_i d q2
      obtain ⟨o, h2⟩ := r.some_of q
      obtain ⟨a, hm, e⟩ := r.slot i _ _ q h2
      subst e
      obtain ⟨vs, ha, nF, lm, ra⟩ := r.mug a hm
      obtain ⟨v, hv2, rp⟩ := ra.get q2
      exact ⟨_, h2, a, vs, (k : Nat), v, rfl, rfl, SqL.of ha, atI_nat hv2, h v H F (.refl r.mug) rp⟩
    · exact h.elim
  · exact h.elim
end
end Wf
/-! W11: enumerate over a list or a tuple. -/
namespace Wf
open PySem L2

/-- enumerate(t), t a tuple: with its iterator -/
theorem enum_newT (l : Addr) (items : Array Value) (n : Nat) (dct : Option Addr) (sl : Array (Option Value)) :
    Meets (Builtin.«enumerate.__new__» ⟨[.type "enumerate", .ref l], []⟩) (fun _ R s => s.heap.get? l = some { cls := .type "tuple", dict := dct, data := .seq items n, slots := sl } ∧
      R (.ok (.ret (.ref (s.heap.push { cls := .type "tuple_iterator", data := .fields #[.ref l, .int 0 0] }).objs.size)))
        { s with heap := (s.heap.push { cls := .type "tuple_iterator", data := .fields #[.ref l, .int 0 0] }).push { cls := .type "enumerate", data := .fields #[.none, .bool false, .ref s.heap.objs.size, rawInt 0, .none, .none] } }) :=
  .of_wp fun prog w A R s h => by
    obtain ⟨hp, g, d, tk, os⟩ := s
    obtain ⟨hl, h⟩ := h
    have hsub := sub_enumerate
    have hL : Heap.IsTuple (Shared.heap ⟨hp, g, d, tk, os⟩) l items := ⟨_, hl, rfl, n, rfl⟩
    wp_walk using PySem.AutoSeq1.wpAny_loadPart' hl
    refine wpAny_stack_any fun st => wpAny_pure ?_
    split
    · rename_i c _ _ _ _ _
      cases (c == Value.type "enumerate")
      · wp_walk using PySem.AutoSeq1.wpAny_loadPart' hl, wpAny_pyIter_tuple hL
        exact ⟨_, rfl, h⟩
      · wp_walk using PySem.AutoSeq1.wpAny_loadPart' hl, wpAny_pyIter_tuple hL
        exact ⟨_, rfl, h⟩
    · wp_walk using PySem.AutoSeq1.wpAny_loadPart' hl, wpAny_pyIter_tuple hL
      exact ⟨_, rfl, h⟩
section
variable {prog : Program} {w : World} {A : Around} {E : Value → Shared → Prop} {s : Shared}
theorem call_enumT {l : Addr} {items : Array Value} {Q : Value → Shared → Prop} (hL : s.heap.IsTuple l items)
    (h : ∀ h', IsEnum h' (s.heap.objs.size + 1) s.heap.objs.size 0 .none → h'.IsTupleIter s.heap.objs.size l 0 → h'.objs.size = s.heap.objs.size + 2 →
      (∀ b o, s.heap.get? b = some o → h'.get? b = some o) → Q (.ref (s.heap.objs.size + 1)) { s with heap := h' }) :
    wpAny (model prog w) A (call (.type "enumerate") [.ref l]) Q E s := by
  obtain ⟨⟨c, dct, dt, sl⟩, hl, hc, n, hd⟩ := hL
  replace hc : c = .type "tuple" := hc
  replace hd : dt = .seq items n := hd
  subst hc hd
  refine callType_new F.called_enumerate (by decide) (F.typeCall_enumerate_1 _) (F.newCall_enumerate_1 _) (fun obj => F.args_object_init_2 obj _) F.entry_enumerate_new
    (enum_newT l items n dct sl) ⟨hl, ?_⟩
  have hz : (s.heap.push { cls := .type "tuple_iterator", data := .fields #[.ref l, .int 0 0] }).objs.size = s.heap.objs.size + 1 := Heap.size_push ..
  show _ ∧ _
  rw [hz]
  have he : IsEnum ((s.heap.push { cls := .type "tuple_iterator", data := .fields #[.ref l, .int 0 0] }).push
      { cls := .type "enumerate", data := .fields #[.none, .bool false, .ref s.heap.objs.size, rawInt 0, .none, .none] }) (s.heap.objs.size + 1) s.heap.objs.size 0 .none := by
    have := Heap.get?_push_size (s.heap.push { cls := .type "tuple_iterator", data := .fields #[.ref l, .int 0 0] })
      (o := { cls := .type "enumerate", data := .fields #[.none, .bool false, .ref s.heap.objs.size, rawInt 0, .none, .none] }) rfl
    rw [hz] at this; exact this
  exact ⟨⟨_, he, rfl⟩, h _ he ⟨_, Heap.get?_push_of_some _ (Heap.get?_push_size _ rfl), rfl, rfl⟩ (by rw [Heap.size_push, hz]) fun b o x => Heap.get?_push_of_some _ (Heap.get?_push_of_some _ x)⟩
end
/-- the tuple at a, each item in a new pair -/
def IteT (K : PySem.W.Frag) (a : Addr) : It :=
  ⟨fun i H => ∃ (xs : List V) (x : V), SqT K H a xs ∧ xs[i]? = some x, fun i H v H' => ∃ T x, v = .ref T ∧ H T = none ∧ H' = upd H T (.tup [.int (i : Nat), x]) ∧ ∀ xs, SqT K H a xs → xs[i]? = some x, fun i H => ∃ xs : List V, SqT K H a xs ∧ xs.length = i⟩
theorem turn_enumT {P : Program} {w : World} {K : PySem.W.Frag} {elts : List Expr} {kk : Nat} {tpos : Pos} (a e it : Addr) (hai : a ≠ it) (hea : e ≠ a) :
    Turn P w K (.Tuple elts kk tpos) (IteT K a) [e, it] e (fun i h => (∃ old, IsEnum h e it ((i : Nat) : Int) old) ∧ h.IsTupleIter it a i ∧ e ≠ it) where
  mem := by simp
  obj := fun i h st b hb => by
    obtain ⟨⟨old, he⟩, ⟨o, ho, hc, hd⟩, _⟩ := st
    have e' : b = e ∨ b = it := by simpa using hb
    rcases e' with z | z
    · rw [z]; exact ⟨_, he, fun v q => nomatch q⟩
    · rw [z]; exact ⟨o, ho, fun v q => by rw [hd] at q; cases q⟩
  keep := fun i h h' st k => let ⟨⟨old, he⟩, hi, hne⟩ := st; ⟨⟨old, k e (by simp) _ he⟩, hi.at fun o q => k it (by simp) o q, hne⟩
  item := by
    intro X hP hw hK hc i pins s σ H E I hf st hg
    subst hP hw hK
    obtain ⟨⟨old, he⟩, hit, hne⟩ := st
    obtain ⟨xs, x, hq, hx⟩ := hg
    obtain ⟨its, rv, p, hz⟩ := I.tuple hq
    obtain ⟨u, hu, ru⟩ := rv.get hx
    have hel : e < s.heap.objs.size := Heap.lt_size he
    have hil : it < s.heap.objs.size := by obtain ⟨_, q, _⟩ := hit; exact Heap.lt_size q
    have hlt : i < its.toArray.size := by
      have := (List.getElem?_eq_some_iff.mp hu).1
      simpa using this
    refine wpAny_pyNext_enum_itemD (Draws.tuple (A := X.A.in1) (I.ok.hd hc) it a hai its.toArray) he ⟨hit, p⟩ hlt hne (fun z => ?_) fun y h' tk hy ho hst' hT hsz hk => ?_
    · rcases List.mem_cons.mp z with z | z
      · exact hne z
      · exact hea (by simpa using z)
    have hyu : y = u := by
      have q : its[i]? = some y := by simpa using hy
      rw [hu] at q
      exact (Option.some.inj q).symm
    subst hyu
    have hit' := hst'.1
    refine ⟨_, rfl, wpAny_letOwnedTupleGo_enum (s := { s with heap := h', toks := tk + 1 }) ho fun h'' he' sb => ?_⟩
    have hT2 : h''.get? s.heap.objs.size = some { cls := .type "tuple", data := .seq #[.int i tk, y] } := (sb.2 _ (Nat.ne_of_gt hel)).trans hT
    have new : ObjOk X.prog X.w (upd H s.heap.objs.size (.tup [.int (i : Nat), x])) h'' s.heap.objs.size (.tup [.int (i : Nat), x]) :=
      ⟨by show 2 ≤ sizeLine; decide, [.int i tk, y], .cons ⟨_, rfl⟩ (.cons ru .nil), ⟨_, hT2, rfl, _, rfl⟩⟩
    have I1 : Inv X pins σ (upd H s.heap.objs.size (.tup [.int (i : Nat), x])) { s with heap := h'', toks := tk + 1 } :=
      I.turnedNew (ch := [e, it]) (fun b ob hb q => (sb.2 b (fun z => hb (by simp [z]))).trans (hk b ob (fun z => hb (by simp [z])) (fun z => hb (by simp [z])) q)) hf (Nat.le_refl _) new
    refine ⟨.ref s.heap.objs.size, _, I1, rfl, ⟨_, x, rfl, I.hok.fresh (Nat.le_refl _), rfl, fun ys hy => ?_⟩, ⟨⟨y, ?_⟩, hit'.at fun o q => (sb.2 it (Ne.symm hne)).trans q, hne⟩, fun b hb => ?_⟩
    · rw [I.tuple_inj hy hq]; exact hx
    · have e1 : ((i + 1 : Nat) : Int) = (i : Int) + 1 := by omega
      rw [e1]; exact he'
    · have hb' : b < s.heap.objs.size := by
        have e' : b = e ∨ b = it := by simpa using hb
        rcases e' with z | z
        · rw [z]; exact hel
        · rw [z]; exact hil
      rw [upd_ne (Nat.ne_of_lt hb')]
      exact (hf b hb).1
  done := by
    intro X hP hw hK hc i pins s σ H E I hf st hg
    subst hP hw hK
    obtain ⟨⟨old, he⟩, hit, hne⟩ := st
    obtain ⟨xs, hq, hx⟩ := hg
    obtain ⟨its, rv, p, hz⟩ := I.tuple hq
    obtain ⟨f0, f1, f2, f3, f4, f5⟩ := hf it (by simp)
    have hl := rv.length
    have hsz : its.toArray.size = i := by
      rw [List.size_toArray]; omega
    have hs : s.heap.IsTupleIter it a its.toArray.size ∧ s.heap.IsTuple a its.toArray := ⟨by rw [hsz]; exact hit, p⟩
    exact wpAny_pyNext_enum_endD (Draws.tuple (A := X.A.in1) (I.ok.hd hc) it a hai its.toArray) he hs fun h' eb => ⟨rfl, I.turned (t' := s.toks) (fun b o hb q => eb b o hb q) f0 f1 f3 f4 f5⟩
  self := fun A i s Q E st h => let ⟨⟨_, he⟩, _⟩ := st; wpAny_pyIter_enum he h

/-- enumerate of a list or a tuple -/
def iEnA (K : PySem.W.Frag) (ta : TA) : TI := fun σ H R => ta σ H fun vs H1 => (∃ a xs, vs = [.ref a] ∧ SqL K H1 a xs ∧ R (Ite K a) H1) ∨ ∃ a xs, vs = [.ref a] ∧ SqT K H1 a xs ∧ R (IteT K a) H1
theorem pi_enA {X : Cx} {e : Expr} {ta : TA} {p pos tpos : Pos} {elts : List Expr} {kk : Nat} (hg : Gl X "enumerate") (hm : X.mg "enumerate" = none) (ha : PA X [e] ta) (hs : starEach [e] X.env = [(false, eval e X.env)]) :
    PI X (.Tuple elts kk tpos) (.Call (.Name "enumerate" p) [e] [] pos) (iEnA X.K ta) := by
  refine ⟨fun pins s σ H R I h => ?_⟩
  refine wpAny_Call_Name_kw (ld_blt I hg hm (PyProof.Rows.boot_enumerate) (PyProof.Rows.callWith_type1 (thn (ha.run pos pins s σ H _ I h) fun us s1 ⟨vs, H1, I1, r1, q1⟩ => ?_) hs rfl))
  have fp : ∀ b ∈ [s1.heap.objs.size + 1, s1.heap.objs.size], FpOk X pins H1 b := fun b hb => by
    have e' : b = s1.heap.objs.size + 1 ∨ b = s1.heap.objs.size := by simpa using hb
    have hle : s1.heap.objs.size ≤ b := by
      rcases e' with z | z
      · rw [z]; exact Nat.le_add_right _ _
      · rw [z]; exact Nat.le_refl _
    exact I1.fpOk hle (I1.hok.fresh hle)
  rcases q1 with ⟨a, xs, ex, hq, q⟩ | ⟨a, xs, ex, hq, q⟩
  · subst ex
    obtain ⟨u, rfl, ru⟩ := vals1 r1
    cases ru
    obtain ⟨its, rv, p', hz⟩ := I1.list hq
    refine call_enumerate_list p'.isList fun h' he hit hsz hk => wpAny_pyIter_enum he ?_
    exact ⟨s1.heap.objs.size + 1, [s1.heap.objs.size + 1, s1.heap.objs.size], _, _, H1, rfl, I1.kept (t' := s1.toks) hk, turn_enum a (s1.heap.objs.size + 1) s1.heap.objs.size, ⟨⟨.none, he⟩, hit, Nat.succ_ne_self _⟩, fp, q⟩
  · subst ex
    obtain ⟨u, rfl, ru⟩ := vals1 r1
    cases ru
    obtain ⟨its, rv, p', hz⟩ := I1.tuple hq
    have hal : a < s1.heap.objs.size := by
      obtain ⟨o, ho, _⟩ := p'
      exact Heap.lt_size ho
    refine call_enumT p' fun h' he hit hsz hk => wpAny_pyIter_enum he ?_
    exact ⟨s1.heap.objs.size + 1, [s1.heap.objs.size + 1, s1.heap.objs.size], _, _, H1, rfl, I1.kept (t' := s1.toks) hk, turn_enumT a (s1.heap.objs.size + 1) s1.heap.objs.size (Nat.ne_of_lt hal) (Nat.ne_of_gt (Nat.lt_succ_of_lt hal)), ⟨⟨.none, he⟩, hit, Nat.succ_ne_self _⟩, fp, q⟩
def enumD (ds : List D) : List D := ds.zipIdx.map fun p => .tuple [.int (p.2 : Nat), p.1]
theorem enumD_get {ds : List D} {i : Nat} {d : D} (h : (enumD ds)[i]? = some d) : ∃ e, ds[i]? = some e ∧ d = .tuple [.int (i : Nat), e] := by
  unfold enumD at h
  rw [List.getElem?_map, List.getElem?_zipIdx] at h
  cases q : ds[i]? with
  | none => rw [q] at h; cases h
  | some e =>
    rw [q] at h
    cases h
    exact ⟨e, rfl, by simp⟩
theorem enumD_length (ds : List D) : (enumD ds).length = ds.length := by simp [enumD]
theorem enum_mon {H H2 : Hp} {T : Addr} {o : HO} (n : H T = none) (e : H2 = upd H T o) : Mon none H H2 := fun b u q _ => by
  rw [e, upd_ne (fun z : b = T => by rw [z, n] at q; cases q)]; exact q
section
variable {K : PySem.W.Frag} {H : Hp} {F : Fz} {a : Addr} {vs : List V} {ds : List D}
theorem itd_enumL {o : HO} (sq : ∀ {H' : Hp} {F' : Fz}, Ext H F H' F' → SqL K H' a vs) (ra : RpA K H F vs ds) : ItD K (Ite K a) H F (enumD ds) := by
  refine ⟨fun i H' F' hi ex => ?_, fun i d x H' F' H2 hd ex hy => ?_, fun H' F' ex => ?_⟩
  · rw [enumD_length] at hi
    obtain ⟨v, hv, _⟩ := ra.get (List.getElem?_eq_getElem hi)
    exact ⟨vs, v, sq ex, hv⟩
  · obtain ⟨T, y, e, hn, e2, k⟩ := hy
    obtain ⟨e3, h3, h4⟩ := enumD_get hd
    obtain ⟨v, hv, rp⟩ := ra.get h3
    have q := k vs (sq ex)
    rw [hv] at q
    cases q
    subst e h4
    refine ⟨enum_mon hn e2, ?_⟩
    rw [e2]
    exact rp_tup hn (.cons (.int _) (.cons (rp.ext ex _ _) .nil))
  · exact ⟨vs, sq ex, by rw [enumD_length, ra.length]; exact Nat.le_refl _⟩
theorem itd_enumT (h : SqT K H a vs) (ra : RpA K H F vs ds) : ItD K (IteT K a) H F (enumD ds) := by
  refine ⟨fun i H' F' hi ex => ?_, fun i d x H' F' H2 hd ex hy => ?_, fun H' F' ex => ?_⟩
  · rw [enumD_length] at hi
    obtain ⟨v, hv, _⟩ := ra.get (List.getElem?_eq_getElem hi)
    exact ⟨vs, v, seqT_ext ex h, hv⟩
  · obtain ⟨T, y, e, hn, e2, k⟩ := hy
    obtain ⟨e3, h3, h4⟩ := enumD_get hd
    obtain ⟨v, hv, rp⟩ := ra.get h3
    have q := k vs (seqT_ext ex h)
    rw [hv] at q
    cases q
    subst e h4
    refine ⟨enum_mon hn e2, ?_⟩
    rw [e2]
    exact rp_tup hn (.cons (.int _) (.cons (rp.ext ex _ _) .nil))
  · exact ⟨vs, seqT_ext ex h, by rw [enumD_length, ra.length]⟩
end
def iEnum (m : AM) : IM := fun g mu => (m g mu).bind fun ds mu1 => match ds with
  | [.list xs] => .ok (enumD xs) mu1
  | [.tuple xs] => .ok (enumD xs) mu1
  | _ => .bad
section
variable {X : Cx} {W : WX} {e : Expr} {am : AM} {p pos tpos : Pos} {elts : List Expr} {kk : Nat}
theorem di_enum (hg : Gl X "enumerate") (hm : X.mg "enumerate" = none) (ha : DA X W [e] am) (hs : starEach [e] X.env = [(false, eval e X.env)]) : DI X W (.Tuple elts kk tpos) (.Call (.Name "enumerate" p) [e] [] pos) (iEnum am) := by
  refine PI_imp (pi_enA hg hm ha hs) fun σ H Q ⟨H0, F0, mg, g, mu, F, r, h⟩ => ?_
  refine tDA_seq r h (fun c p mu' hE => hE) fun ds mu1 vs H1 F1 st ra k => ?_
  split at k
  · obtain ⟨v, rfl, rv⟩ := ra.one
    cases rv with
    | lst hf hs ra => exact .inl ⟨_, _, rfl, SqL.of hs, k (Ite X.K _) H1 F1 st (itd_enumL (o := .lst []) (fun ex => SqL.of (ex.keep _ _ hf hs)) ra)⟩
  · obtain ⟨v, rfl, rv⟩ := ra.one
    cases rv with
    | tup hs ra => exact .inr ⟨_, _, rfl, hs, k _ H1 F1 st (itd_enumT hs ra)⟩
  · exact k.elim
end
end Wf
/-! W12: sorted, of ints and of tuples of ints. -/
namespace Wf
open PySem L2
open PyProof.Rows (IsTup seqObj sortedAll_at sortedAll_old)

/-! ### the plain order -/
def lexL : List Int → List Int → Bool
  | [], [] => false
  | [], _ :: _ => true
  | _ :: _, [] => false
  | a :: r, b :: q => if a = b then lexL r q else decide (a < b)
theorem lexL_asym : ∀ x y : List Int, lexL x y = true → lexL y x = false
  | [], [], h => by cases h
  | [], _ :: _, _ => rfl
  | _ :: _, [], h => by cases h
  | a :: r, b :: q, h => by
    unfold lexL at h ⊢
    by_cases e : a = b
    · rw [if_pos e] at h
      rw [if_pos e.symm]
      exact lexL_asym r q h
    · rw [if_neg e] at h
      rw [if_neg (fun z => e z.symm)]
      have h := of_decide_eq_true h
      exact decide_eq_false (by omega)
theorem lexL_tr : ∀ x y z : List Int, lexL y x = false → lexL z y = false → lexL z x = false
  | [], [], z, _, h => h
  | [], _ :: _, [], _, h => rfl
  | [], _ :: _, _ :: _, _, h => rfl
  | _ :: _, [], _, h, _ => by cases h
  | _ :: _, _ :: _, [], _, h => by cases h
  | a :: r, b :: q, c :: t, h1, h2 => by
    unfold lexL at h1 h2 ⊢
    by_cases e1 : b = a
    · rw [if_pos e1] at h1
      by_cases e2 : c = b
      · rw [if_pos e2] at h2
        rw [if_pos (e2.trans e1)]
        exact lexL_tr r q t h1 h2
      · rw [if_neg e2] at h2
        have h2 := of_decide_eq_false h2
        rw [if_neg (fun z => e2 (z.trans e1.symm))]
        exact decide_eq_false (by omega)
    · rw [if_neg e1] at h1
      have h1 := of_decide_eq_false h1
      by_cases e2 : c = b
      · rw [if_neg (fun z => e1 (e2.symm.trans z))]
        exact decide_eq_false (by omega)
      · rw [if_neg e2] at h2
        have h2 := of_decide_eq_false h2
        rw [if_neg (by omega)]
        exact decide_eq_false (by omega)
theorem lexL_anti : ∀ x y : List Int, lexL x y = false → lexL y x = false → x = y
  | [], [], _, _ => rfl
  | [], _ :: _, h, _ => by cases h
  | _ :: _, [], _, h => by cases h
  | a :: r, b :: q, h1, h2 => by
    unfold lexL at h1 h2
    by_cases e : a = b
    · rw [if_pos e] at h1
      rw [if_pos e.symm] at h2
      rw [e, lexL_anti r q h1 h2]
    · rw [if_neg e] at h1
      rw [if_neg (fun z => e z.symm)] at h2
      have h1 := of_decide_eq_false h1
      have h2 := of_decide_eq_false h2
      exact absurd (by omega) e
theorem swo_lexL : SrtO.Swo lexL := ⟨lexL_asym, lexL_tr⟩
section
variable {α : Type} (lt : α → α → Bool)
def insB (x : α) : List α → List α
  | [] => [x]
  | y :: r => if lt y x = true then y :: insB x r else x :: y :: r
def srtB : List α → List α
  | [] => []
  | x :: r => insB lt x (srtB r)
variable {lt}
theorem insB_perm (x : α) : ∀ l : List α, (insB lt x l).Perm (x :: l)
  | [] => List.Perm.refl _
  | y :: r => by
    unfold insB
    split
    · exact (List.Perm.cons y (insB_perm x r)).trans (List.Perm.swap x y r)
    · exact List.Perm.refl _
theorem srtB_perm : ∀ l : List α, (srtB lt l).Perm l
  | [] => List.Perm.refl _
  | x :: r => (insB_perm x _).trans (List.Perm.cons x (srtB_perm r))
theorem insB_srtd (O : SrtO.Swo lt) (x : α) : ∀ {l : List α}, SrtO.Srtd lt l → SrtO.Srtd lt (insB lt x l)
  | [], _ => List.pairwise_singleton _ _
  | y :: r, h => by
    obtain ⟨h1, h2⟩ := List.pairwise_cons.mp h
    unfold insB
    split
    · rename_i c
      refine List.pairwise_cons.mpr ⟨fun z hz => ?_, insB_srtd O x h2⟩
      rcases List.mem_cons.mp ((insB_perm x r).mem_iff.mp hz) with e | hz
      · rw [e]; exact O.asym y x c
      · exact h1 z hz
    · rename_i c
      have c : lt y x = false := by simpa using c
      refine List.pairwise_cons.mpr ⟨fun z hz => ?_, h⟩
      rcases List.mem_cons.mp hz with e | hz
      · rw [e]; exact c
      · exact O.tr x y z c (h1 z hz)
theorem srtB_srtd (O : SrtO.Swo lt) : ∀ l : List α, SrtO.Srtd lt (srtB lt l)
  | [] => List.Pairwise.nil
  | x :: r => insB_srtd O x (srtB_srtd O r)
theorem srt_uniq {l m : List α} (an : ∀ a b, lt a b = false → lt b a = false → a = b) (h1 : SrtO.Srtd lt l) (h2 : SrtO.Srtd lt m) (p : l.Perm m) : l = m :=
  List.Perm.eq_of_pairwise (le := fun x y => lt y x = false) (fun a b _ _ u v => (an a b v u)) h1 h2 p
end
def ltI (a b : Int) : Bool := decide (a < b)
def sortI (l : List Int) : List Int := srtB ltI l
def sortT (l : List (List Int)) : List (List Int) := srtB lexL l
theorem swo_ltI : SrtO.Swo ltI := by
  refine ⟨fun x y h => ?_, fun x y z h1 h2 => ?_⟩
  · have a := of_decide_eq_true (p := x < y) h
    exact decide_eq_false (p := y < x) (by omega)
  · have a := of_decide_eq_false (p := y < x) h1
    have b := of_decide_eq_false (p := z < y) h2
    exact decide_eq_false (p := z < x) (by omega)
theorem ltI_anti (a b : Int) (h1 : ltI a b = false) (h2 : ltI b a = false) : a = b := by
  have h1 := of_decide_eq_false (p := a < b) h1
  have h2 := of_decide_eq_false (p := b < a) h2
  omega

/-! ### at the heap -/
section
variable {prog : Program} {w : World} {A : Around} {E : Value → Shared → Prop} {s : Shared}
/-- the ints of a tuple -/
def kOf (h : Heap) : Value → List Int
  | .ref a => match h.get? a with
    | some o => match o.data with
      | .seq us _ => us.toList.map SrtO.iv
      | _ => []
    | none => []
  | _ => []
theorem kOf_eq {h : Heap} {a : Addr} {o : Obj} {us : Array Value} {n : Nat} (ho : h.get? a = some o) (hd : o.data = .seq us n) : kOf h (.ref a) = us.toList.map SrtO.iv := by
  have e : kOf h (.ref a) = match h.get? a with
    | some o => (match o.data with
      | .seq us _ => us.toList.map SrtO.iv
      | _ => [])
    | none => [] := rfl
  rw [e, ho]
  dsimp only
  rw [hd]
/-- v is a tuple of ints, one at least -/
def TI (h : Heap) (v : Value) : Prop := ∃ a o us n, v = .ref a ∧ h.get? a = some o ∧ o.cls = .type "tuple" ∧ o.data = .seq us n ∧ (∀ u ∈ us.toList, ∃ i t, u = Value.int i t) ∧ 0 < us.size
theorem TI.keep {h h' : Heap} {v : Value} {a : Addr} (t : TI h v) (ha : ∀ o, h.get? a = some o → o.cls ≠ .type "tuple") (k : ∀ b o, b ≠ a → h.get? b = some o → h'.get? b = some o) : TI h' v ∧ kOf h' v = kOf h v := by
  obtain ⟨b, o, us, n, rfl, ho, hc, hd, hi, hp⟩ := t
  have ne : b ≠ a := fun z => ha o (by rw [← z]; exact ho) hc
  have ho' := k b o ne ho
  exact ⟨⟨b, o, us, n, rfl, ho', hc, hd, hi, hp⟩, by rw [kOf_eq ho' hd, kOf_eq ho hd]⟩
theorem lexGo {b : Bool} : ∀ (us vs : List Value) (i : Nat) (fin : Bool) {Q : Bool → Shared → Prop} (s : Shared), (∀ u ∈ us, ∃ i t, u = Value.int i t) → (∀ u ∈ vs, ∃ i t, u = Value.int i t) → b = true → fin = decide (us.length < vs.length) →
    Q (lexL (us.map SrtO.iv) (vs.map SrtO.iv)) s → PySem.W.KatLex prog w A b fin Q (us.zip vs) i s
  | [], [], i, fin, Q, s, _, _, _, hf, q => by
    refine PySem.W.kat_nil ?_
    rw [hf]; exact q
  | [], _ :: _, i, fin, Q, s, _, _, _, hf, q => by
    refine PySem.W.kat_nil ?_
    rw [hf]; exact q
  | _ :: _, [], i, fin, Q, s, _, _, _, hf, q => by
    refine PySem.W.kat_nil ?_
    rw [hf]; exact q
  | u :: us, v :: vs, i, fin, Q, s, hu, hv, hb, hf, q => by
    obtain ⟨x, t, rfl⟩ := hu u List.mem_cons_self
    obtain ⟨y, t', rfl⟩ := hv v List.mem_cons_self
    have q : Q (if x = y then lexL (us.map SrtO.iv) (vs.map SrtO.iv) else decide (x < y)) s := q
    refine PySem.W.kat_cons (SeqAt.EqAt.int_int x t y t' prog w _ _ ?_)
    refine PySem.W.kat_go (fun e1 => ?_) (fun e1 => ?_)
    · have ex : x = y := by simpa using e1
      rw [if_pos ex] at q
      exact PySem.W.kat_yes (lexGo us vs (i + 1) fin s (fun a m => hu a (List.mem_cons_of_mem _ m)) (fun a m => hv a (List.mem_cons_of_mem _ m)) hb (by rw [hf]; simp) q)
    · have ex : ¬ x = y := by simpa using e1
      rw [if_neg ex] at q
      refine PySem.W.kat_no ?_
      cases i with
      | zero =>
        rw [hb]
        exact PyProof.Rows.oneLt_int q
      | succ i =>
        have e : (b && (i + 1 == 0)) = false := by cases b <;> rfl
        rw [e]
        exact PySem.W.kat_one _ _ (PyProof.Rows.lt_int q)
theorem tup_cmp {vs : List Value} (hp : ∀ v ∈ vs, TI s.heap v) : SrtO.Cmp prog w A s (PyProof.Rows.tuples' true) (fun p => p.1 ∈ vs) (SrtO.lt2 fun v u => lexL (kOf s.heap v) (kOf s.heap u)) := by
  intro p q hm hm'
  have h1 := hp _ hm
  have h2 := hp _ hm'
  show wpAny (model prog w) A (PyProof.Rows.keyLt' (PyProof.Rows.tuples' true) p.1 q.1) (fun r s' => s' = s ∧ r = lexL (kOf s.heap p.1) (kOf s.heap q.1)) (fun _ _ => False) s
  obtain ⟨a, o, us, n, e, ho, hc, hd, hi, hz⟩ := h1
  obtain ⟨a', o', us', n', e', ho', hc', hd', hi', hz'⟩ := h2
  rw [e, e']
  have k1 : kOf s.heap (.ref a) = us.toList.map SrtO.iv := kOf_eq ho hd
  have k2 : kOf s.heap (.ref a') = us'.toList.map SrtO.iv := kOf_eq ho' hd'
  rw [k1, k2]
  exact PySem.W.kat_lt ho hd ho' hd' (lexGo us.toList us'.toList 0 _ s hi hi' rfl (by simp) ⟨rfl, rfl⟩)
theorem tups_sortable {a : Addr} {vs : List Value} (h0 : 0 < vs.length) (hp : ∀ v ∈ vs, TI s.heap v) (ha : ∀ o, s.heap.get? a = some o → o.cls ≠ .type "tuple") : SrtO.SortableO prog w A s a vs fun v u => lexL (kOf s.heap v) (kOf s.heap u) := by
  intro h' keep
  have hp' : ∀ v ∈ vs, TI h' v ∧ kOf h' v = kOf s.heap v := fun v hm => (hp v hm).keep ha keep
  have firsts : ∀ l : List Value, (∀ v ∈ l, TI h' v) → ∃ fs : List Value, PySem.W.KatTups h' l fs ∧ fs.length = l.length ∧ ∀ f ∈ fs, ∃ i t, f = Value.int i t := by
    intro l
    induction l with
    | nil => intro _; exact ⟨[], PySem.W.KatTups.nil, rfl, fun f hf => by cases hf⟩
    | cons v l ih =>
      intro hl
      obtain ⟨fs, h1, h2, h3⟩ := ih fun u m => hl u (List.mem_cons_of_mem _ m)
      obtain ⟨b, o, us, n, e, ho, hc, hd, hi, hz⟩ := hl v List.mem_cons_self
      subst e
      refine ⟨us[0] :: fs, PySem.W.KatTups.cons ho hc hd (by simp [hz]) h1, by simp [h2], fun f hf => ?_⟩
      rcases List.mem_cons.mp hf with e | hf
      · rw [e]; exact hi _ (by simp)
      · exact h3 f hf
  obtain ⟨fs, h1, h2, h3⟩ := firsts vs fun v hv => (hp' v hv).1
  refine ⟨PyProof.Rows.tuples' true, fun Q E hq => ?_, ?_⟩
  · refine PySem.W.kat_kind (T := .type "int") h1 (by omega) (fun f hm => ?_) (by rfl) ?_
    · obtain ⟨x, t, rfl⟩ := h3 f hm
      exact PySem.W.Looks.now
    · have e : (Value.type "int" != Value.type "tuple") = true := by first | decide +kernel | rfl | decide
      rw [e]
      exact hq
  · have c := tup_cmp (prog := prog) (w := w) (A := A) (s := { s with heap := h' }) fun v hv => (hp' v hv).1
    intro p q hm hm'
    have c1 := c p q hm hm'
    have e : (SrtO.lt2 fun v u => lexL (kOf h' v) (kOf h' u)) p q = (SrtO.lt2 fun v u => lexL (kOf s.heap v) (kOf s.heap u)) p q := by
      show lexL (kOf h' p.1) (kOf h' q.1) = lexL (kOf s.heap p.1) (kOf s.heap q.1)
      rw [(hp' _ hm).2, (hp' _ hm').2]
    rw [← e]
    exact c1
end
/-! ### the rule -/
inductive TupsI (K : PySem.W.Frag) (H : Hp) : List V → List (List Int) → Prop
  | nil : TupsI K H [] []
  | cons {t : Addr} {ns : List Int} {xs : List V} {kss : List (List Int)} : SqT K H t (ns.map V.int) → ns ≠ [] → TupsI K H xs kss → TupsI K H (.ref t :: xs) (ns :: kss)
def rSortT (K : PySem.W.Frag) : List V → Hp → VK → Prop := fun vs H Q => ∃ (a : Addr) (xs : List V) (kss : List (List Int)), vs = [V.ref a] ∧ SqL K H a xs ∧ TupsI K H xs kss ∧
  ∀ ys p, TupsI K H ys (sortT kss) → H p = none → Q (.ref p) (upd H p (.lst ys))
section
variable {X : Cx} {pins : List (Addr × Obj)} {σ : St} {H : Hp} {s : Shared}
theorem one_TI (I : L2.Inv X pins σ H s) {t : Addr} {ns : List Int} (h : SqT X.K H t (ns.map V.int)) (hn : ns ≠ []) : TI s.heap (.ref t) ∧ kOf s.heap (.ref t) = ns := by
  obtain ⟨its, rv, ⟨o, ho, hc, n, hd⟩, hz⟩ := I.tuple h
  have hi := rv.ints
  refine ⟨⟨t, o, its.toArray, n, rfl, ho, hc, hd, fun u hu => SrtO.ints_mem hi u (by simpa using hu), ?_⟩, ?_⟩
  · have l := rv.length
    rw [List.length_map] at l
    rw [List.size_toArray, ← l]
    exact List.length_pos_iff.mpr hn
  · rw [kOf_eq ho hd]
    exact SrtO.iv_ints (by simpa using hi)
theorem all_TI (I : L2.Inv X pins σ H s) : ∀ {xs : List V} {kss : List (List Int)} {us : List Value}, TupsI X.K H xs kss → Vals xs us → us.map (kOf s.heap) = kss ∧ (∀ u ∈ us, TI s.heap u) ∧ ∀ u ∈ us, ∃ t, u = .ref t ∧ SqT X.K H t ((kOf s.heap u).map V.int) ∧ kOf s.heap u ≠ []
  | _, _, _, .nil, .nil => ⟨rfl, (fun u (h : u ∈ ([] : List Value)) => absurd h List.not_mem_nil), (fun u (h : u ∈ ([] : List Value)) => absurd h List.not_mem_nil)⟩
  | _, _, _, .cons (t := t) (ns := ns) hs hn r, .cons rv rr => by
    cases rv
    obtain ⟨h1, h2, h3⟩ := all_TI I r rr
    obtain ⟨h4, h5⟩ := one_TI I hs hn
    refine ⟨by rw [List.map_cons, h1, h5], fun u hu => ?_, fun u hu => ?_⟩
    · rcases List.mem_cons.mp hu with e | hu
      · rw [e]; exact h4
      · exact h2 u hu
    · rcases List.mem_cons.mp hu with e | hu
      · rw [e, h5]; exact ⟨t, rfl, hs, hn⟩
      · exact h3 u hu
theorem back_TI {K : PySem.W.Frag} {h : Heap} : ∀ {out : List Value}, (∀ u ∈ out, ∃ t, u = .ref t ∧ SqT K H t ((kOf h u).map V.int) ∧ kOf h u ≠ []) → TupsI K H (out.map backV) (out.map (kOf h))
  | [], _ => .nil
  | u :: out, hh => by
    obtain ⟨t, e, h1, h2⟩ := hh u List.mem_cons_self
    have r := back_TI fun v hv => hh v (List.mem_cons_of_mem _ hv)
    subst e
    exact .cons h1 h2 r
theorem cr_sortT : CallR X (.builtin "sorted") (rSortT X.K) := by
  intro pins s σ H vs us Q I r h
  obtain ⟨a, xs, kss, rfl, hs, hx, q⟩ := h
  obtain ⟨its, rv, hl, hz⟩ := I.list hs
  obtain ⟨u, rfl, ru⟩ := vals1 r
  obtain rfl : u = Value.ref a := ru
  obtain ⟨k1, k2, k3⟩ := all_TI I hx rv
  have O : SrtO.Swo fun v u => lexL (kOf s.heap v) (kOf s.heap u) := ⟨fun x y => lexL_asym _ _, fun x y z => lexL_tr _ _ _⟩
  refine SrtO.sorted_ord O hl.isList (by rw [← rv.length]; exact hz) (fun h2 h₁ a' ha kk => ?_) fun out h1 h2 => ?_
  · have k2' : ∀ v ∈ its, TI h₁ v ∧ kOf h₁ v = kOf s.heap v := fun v hv => (k2 v hv).keep (a := s.heap.objs.size) (fun o e => absurd (Heap.lt_size e) (Nat.lt_irrefl _)) fun b o _ e => (kk b o e).2
    have z := tups_sortable (prog := X.prog) (w := X.w) (A := X.A.in1.in1) (s := { s with heap := h₁ }) (a := a') (vs := its) (by omega) (fun v hv => (k2' v hv).1) fun o e => by
      have e' : some o = some (seqObj "list" its.toArray 0) := e.symm.trans ha
      cases e'
      intro c
      exact absurd (Value.type.inj c) (by decide)
    intro h' keep
    obtain ⟨κ, z1, z2⟩ := z h' keep
    refine ⟨κ, z1, fun p q hm hm' => ?_⟩
    have c1 := z2 p q hm hm'
    have e : (SrtO.lt2 fun v u => lexL (kOf h₁ v) (kOf h₁ u)) p q = (SrtO.lt2 fun v u => lexL (kOf s.heap v) (kOf s.heap u)) p q := by
      show lexL (kOf h₁ p.1) (kOf h₁ q.1) = lexL (kOf s.heap p.1) (kOf s.heap q.1)
      rw [(k2' _ hm).2, (k2' _ hm').2]
    rw [← e]
    exact c1
  · have h3 : ∀ u ∈ out, ∃ t, u = .ref t ∧ SqT X.K H t ((kOf s.heap u).map V.int) ∧ kOf s.heap u ≠ [] := fun u hu => k3 u (h2.perm.mem_iff.mp hu)
    obtain ⟨ep, he'⟩ := sortedAll_at s.heap its out.toArray
    have hk : out.map (kOf s.heap) = sortT kss := by
      refine srt_uniq lexL_anti (List.pairwise_map.mpr h1) (srtB_srtd swo_lexL kss) ?_
      have p1 := h2.perm.map (kOf s.heap)
      rw [k1] at p1
      exact p1.trans (srtB_perm kss).symm
    have hb := back_TI h3
    rw [hk] at hb
    refine ⟨.ref _, upd H (s.heap.objs.size + 1) (.lst (out.map backV)), I.laid (t' := s.toks) (fun _ _ => sortedAll_old) (Nat.le_succ _) ⟨?_, out, ep, vals_back fun u hu => ?_, he'⟩, rfl, q _ _ hb (I.hok.fresh (Nat.le_succ _))⟩
    · rw [List.length_map, h2.len, ← rv.length]
      exact hz
    · obtain ⟨t, e, _⟩ := h3 u hu
      exact ⟨t, e⟩
end

/-! ### over data -/
def tupD (ns : List Int) : D := .tuple (ns.map PyData.int)
def tupsOf : List D → Option (List (List Int))
  | [] => some []
  | .tuple ds :: r => match intsOf ds with
    | some (i :: ns) => (tupsOf r).map ((i :: ns) :: ·)
    | _ => none
  | _ :: _ => none
def fSort : List D → Option D
  | [.list ds] => match intsOf ds with
    | some ns => some (.list ((sortI ns).map PyData.int))
    | none => match tupsOf ds with
      | some kss => some (.list ((sortT kss).map tupD))
      | none => none
  | _ => none
section
variable {K : PySem.W.Frag} {H : Hp} {F : Fz}
theorem rpa_ints : ∀ ns : List Int, RpA K H F (ns.map V.int) (ns.map PyData.int)
  | [] => .nil
  | n :: ns => .cons (.int n) (rpa_ints ns)
theorem rpa_tups : ∀ {vs : List V} {kss : List (List Int)}, TupsI K H vs kss → RpA K H F vs (kss.map tupD)
  | _, _, .nil => .nil
  | _, _, .cons hs hn r => .cons (.tup hs (rpa_ints _)) (rpa_tups r)
theorem RpA.tups : ∀ {vs : List V} {ds : List D} {kss : List (List Int)}, RpA K H F vs ds → tupsOf ds = some kss → TupsI K H vs kss
  | _, [], kss, .nil, h => by
    injection h with h
    subst h
    exact .nil
  | _, .tuple xs :: r, kss, .cons h1 h2, h => by
    cases h1 with
    | tup hs ra =>
    unfold tupsOf at h
    split at h
    · rename_i i ns q
      cases q2 : tupsOf r with
      | none => rw [q2] at h; cases h
      | some ms =>
        rw [q2] at h
        injection h with h
        subst h
        refine .cons ?_ (by simp) (RpA.tups h2 q2)
        rw [← ra.ints q]
        exact hs
    · cases h
  | _, .none :: _, _, _, h => by cases h
  | _, .bool _ :: _, _, _, h => by cases h
  | _, .int _ :: _, _, _, h => by cases h
  | _, .str _ :: _, _, _, h => by cases h
  | _, .list _ :: _, _, _, h => by cases h
  | _, .dict _ :: _, _, _, h => by cases h
def rSortA (K : PySem.W.Frag) : List V → Hp → VK → Prop := fun xs H Q => rSortedI K xs H Q ∨ rSortT K xs H Q
theorem cl_sort : Cl K (rSortA K) fSort := by
  intro mg H F mu vs ds z Q m ra hz k
  unfold fSort at hz
  split at hz
  · rename_i ys
    obtain ⟨v, rfl, rp⟩ := ra.one
    cases rp with
    | lst hf hs rb =>
    split at hz
    · rename_i ns q
      injection hz with hz
      subst hz
      refine .inl ⟨_, ns, rfl, by rw [← rb.ints q]; exact SqL.of hs, fun ns' p h1 h2 hp => ?_⟩
      have e : ns' = sortI ns := by
        refine srt_uniq ltI_anti ?_ (srtB_srtd swo_ltI ns) (h1.trans (srtB_perm ns).symm)
        exact h2.imp fun {x y} h => decide_eq_false (p := y < x) (by omega)
      rw [e]
      exact k _ _ _ (stp_newF m hp) (rp_lst hp (rpa_ints _))
    · split at hz
      · rename_i kss q
        injection hz with hz
        subst hz
        exact .inr ⟨_, _, kss, rfl, SqL.of hs, rb.tups q, fun ys p h1 hp => k _ _ _ (stp_newF m hp) (rp_lst hp (rpa_tups h1))⟩
      · cases hz
  · cases hz
end
theorem cr_sortA {X : Cx} : CallR X (.builtin "sorted") (rSortA X.K) := cr_sortedI.or cr_sortT
end Wf
/-! W13: comprehensions of two clauses. -/
namespace Wf
open PySem L2

def compS2 (gm : GM) (mt : TM) (im1 : IM) (vs1 : List Nat) (gm1 : GM) (mt1 : TM) (me : EM) : List D → Gm → Mu → R (List D)
  | [], _, mu => .ok [] mu
  | d :: ds, g, mu => match gm d g mu with
    | some (g1, mu1) => (mt g1 mu1).bind fun b mu2 => if b = true then (im1 g1 mu2).bind fun ds1 mu3 => (compS gm1 mt1 me ds1 (wipeG g1 vs1) mu3).bind fun ys mu4 => (compS2 gm mt im1 vs1 gm1 mt1 me ds g mu4).bind fun zs mu5 => .ok (ys ++ zs) mu5
      else compS2 gm mt im1 vs1 gm1 mt1 me ds g mu2
    | none => .bad
def eComp2 (vs : List Nat) (im : IM) (gm : GM) (mt : TM) (vs1 : List Nat) (im1 : IM) (gm1 : GM) (mt1 : TM) (me : EM) : EM := fun g mu => (im g mu).bind fun ds mu1 => match compS2 gm mt im1 vs1 gm1 mt1 me ds (wipeG g vs) mu1 with
  | .ok ys mu2 => if ys.length ≤ lineN then .ok (.list ys) mu2 else .bad
  | _ => .bad

section
variable {K : PySem.W.Frag} {H0 H H1 H2 H3 : Hp} {F0 F F1 F2 : Fz} {mg : Option Addr} {g : Gm} {mu : Mu} {σ : St} {L : Addr} {o : HO} {acc acc' : List V}
/-- the list L that is being built is known to stand from the start -/
theorem Rel.seat (r : Rel K H0 F0 mg g mu σ H F) (hL : H L = some o) (nF : ¬ F L) (ap : ∀ (j : Nat) es, g[j]? = some (.own es) → σ[j]? ≠ some (some (.ref L))) : Rel K (upd H0 L o) F0 mg g mu σ H F := by
  refine ⟨r.len, r.slot, r.inj, fun i ds a h1 h2 => ?_, r.f0, fun a h => ?_, r.ftr, fun a u h n => ?_, r.mug, fun a e => ?_⟩
  · rw [upd_ne (fun z : a = L => ap i ds h1 (by rw [← z]; exact h2))]; exact r.owf i ds a h1 h2
  · rw [upd_ne (fun z : a = L => nF (by rw [← z]; exact h))]; exact r.fnew a h
  · by_cases e : a = L
    · subst e
      rw [upd_same] at h
      cases h
      exact hL
    · rw [upd_ne e] at h
      exact r.frame a u h n
  · obtain ⟨h1, u, h2⟩ := r.mu0 a e
    refine ⟨h1, ?_⟩
    by_cases q : a = L
    · subst q; exact ⟨o, upd_same⟩
    · rw [upd_ne q]; exact ⟨u, h2⟩
/-- it is written -/
theorem Rel.poke (r : Rel K (upd H0 L (.lst acc)) F0 mg g mu σ H F) (hL : H L = some (.lst acc)) (nF : ¬ F L) (nm : mg ≠ some L) : Rel K (upd H0 L (.lst acc')) F0 mg g mu σ (upd H L (.lst acc')) F := by
  have ex : Ext H F (upd H L (.lst acc')) F := ext_write hL nF
  have apart : ∀ {j : Nat} {es : List D} {a : Addr}, g[j]? = some (.own es) → σ[j]? = some (some (.ref a)) → a ≠ L := fun {j es a} h1 h2 z => by
    have q := r.owf j es a h1 h2
    rw [z, upd_same] at q; cases q
  refine ⟨r.len, fun j s o h3 h4 => ?_, r.inj, fun i ds a h1 h2 => ?_, r.f0, fun a h => ?_, fun a h => ?_, fun a u h n => ?_, fun a e => ?_, fun a e => ?_⟩
  · have q := r.slot j s o h3 h4
    cases s with
    | no => trivial
    | val d =>
      obtain ⟨v, e2, q⟩ := q
      exact ⟨v, e2, q.ext ex d v⟩
    | own ds2 =>
      obtain ⟨b, us, e2, p1, p2, p3⟩ := q
      subst e2
      exact ⟨b, us, rfl, by rw [upd_ne (apart h3 h4)]; exact p1, p2, p3.ext ex _ _⟩
    | mug => exact q
    | exn c p b dx => exact exn_write hL ex q
  · have ne := apart h1 h2
    have q := r.owf i ds a h1 h2
    rw [upd_ne ne] at q ⊢
    exact q
  · have ne : a ≠ L := fun z => nF (by rw [← z]; exact h)
    have q := r.fnew a h
    rw [upd_ne ne] at q ⊢
    exact q
  · obtain ⟨u, q⟩ := r.ftr a h
    exact ⟨u, ex.keep a u h q⟩
  · by_cases e : a = L
    · subst e
      rw [upd_same] at h ⊢
      exact h
    · rw [upd_ne e] at h ⊢
      exact r.frame a u (by rw [upd_ne e]; exact h) n
  · obtain ⟨us, p1, p2, p3, p4⟩ := r.mug a e
    exact ⟨us, by rw [upd_ne (fun z : a = L => nm (by rw [← z]; exact e))]; exact p1, p2, p3, p4.ext ex _ _⟩
  · obtain ⟨h1, u, h2⟩ := r.mu0 a e
    refine ⟨h1, ?_⟩
    have ne : a ≠ L := fun z => nm (by rw [← z]; exact e)
    rw [upd_ne ne] at h2 ⊢
    exact ⟨u, h2⟩
theorem stp_yld (m : MuOk K mg H2 F2 mu) (mon : Mon none H2 H3) : Stp K mg H2 F2 mu H3 F2 := by
  refine ⟨fun a o e _ => mon a o e (by simp), fun _ z => z, fun _ z => .inl z, fun a e => ?_⟩
  obtain ⟨us, q1, q2, q3, q4⟩ := m a e
  have ex : Ext H2 F2 H3 F2 := ⟨fun _ z => z, fun a o _ e => mon a o e (by simp), fun a xs z => by
    rcases z with z | ⟨o, z⟩
    · exact .inl (mon a _ z (by simp))
    · exact .inr ⟨o, mon a _ z (by simp)⟩⟩
  exact ⟨us, mon a _ q1 (by simp), q2, q3, q4.ext ex _ _⟩
/-- L, new since H1, is written -/
theorem stp_poke (st : Stp K mg H1 F1 mu H2 F2) (n1 : H1 L = none) (hL : H2 L = some (.lst acc)) (nF : ¬ F2 L) (nm : mg ≠ some L) : Stp K mg H1 F1 mu (upd H2 L (.lst acc')) F2 := by
  refine ⟨fun a o e n => ?_, st.sub, fun a z => ?_, fun a e => ?_⟩
  · rw [upd_ne (fun w : a = L => by rw [w, n1] at e; cases e)]
    exact st.mon a o e n
  · rcases st.new a z with w | ⟨w, o, w2⟩
    · exact .inl w
    · exact .inr ⟨w, o, by rw [upd_ne (fun u : a = L => nF (by rw [← u]; exact z))]; exact w2⟩
  · obtain ⟨us, q1, q2, q3, q4⟩ := st.mug a e
    exact ⟨us, by rw [upd_ne (fun u : a = L => nm (by rw [← u]; exact e))]; exact q1, q2, q3, q4.ext (ext_write hL nF) _ _⟩
theorem Stp.out (st : Stp K mg H1 F1 mu H2 F2) (hL : H1 L = some o) (nF : ¬ F1 L) : ¬ F2 L := fun z => by
  rcases st.new L z with w | ⟨w, _⟩
  · exact nF w
  · rw [hL] at w; cases w
end

section
variable {X : Cx} {W : WX}
/-- the second clause's turns -/
theorem comp_in {gm1 : GM} {mt1 : TM} {me : EM} {vs1 ws1 : List Nat} {σ2 : St} {Hb H4 : Hp} {Fb F4 : Fz} {H0 : Hp} {F0 : Fz} {mg : Option Addr} {g4 : Gm} {mu4 muI : Mu} {L : Addr} {acc0 : List V} {ds1 ys0 ysI : List D} {J1 : It} {Nx : Hp → Prop}
    (hs1 : ∀ j ∈ ws1, j ∈ vs1) (r4 : Rel X.K (upd H0 L (.lst acc0)) F0 mg g4 mu4 σ2 H4 F4) (st : Stp X.K mg Hb Fb mu4 H4 F4) (nb : Hb L = none) (nm : mg ≠ some L) (hL : H4 L = some (.lst acc0)) (nF : ¬ F4 L) (ra0 : RpA X.K H4 F4 acc0 ys0)
    (it : ItD X.K J1 H4 F4 ds1) (hc : compS gm1 mt1 me ds1 (wipeG g4 vs1) mu4 = .ok ysI muI) (hlen : (ys0 ++ ysI).length ≤ lineN)
    (nx : ∀ H' F' acc', Stp X.K mg Hb Fb muI H' F' → H' L = some (.lst acc') → ¬ F' L → RpA X.K H' F' acc' (ys0 ++ ysI) → Nx H') :
    ∃ W1 : Nat → Nat → Hp → Prop, (∃ m, W1 0 m H4) ∧ ∀ j k H, W1 j k H →
      (J1.stop j H ∧ Nx H) ∨ (J1.go j H ∧ ∃ Nx1 : Hp → Prop, (∀ H', Nx1 H' → ∃ k', k' < k ∧ W1 (j + 1) k' H') ∧ ∀ x H', J1.yld j H x H' → (tG X.K ws1 gm1) x (L2.wipe σ2 vs1) H' fun σ3 H5 => L2.wipe σ3 vs1 = L2.wipe σ2 vs1 ∧ (tDT X.K X.mg W0 mt1) σ3 H5 fun b H6 =>
        if b = true then (tD X.K X.mg W0 me) σ3 H6 fun y H7 => ∃ acc, H7 L = some (.lst acc) ∧ acc.length < sizeLine ∧ Nx1 (upd H7 L (.lst (acc ++ [y]))) else Nx1 H6) := by
  refine ⟨fun j k H => k = ds1.length - j ∧ j ≤ ds1.length ∧ ∃ F mu acc ysA ysB, Rel X.K (upd H0 L (.lst acc)) F0 mg g4 mu σ2 H F ∧ Ext H4 F4 H F ∧ Stp X.K mg Hb Fb mu H F ∧ H L = some (.lst acc) ∧ ¬ F L ∧ RpA X.K H F acc ysA ∧ compS gm1 mt1 me (ds1.drop j) (wipeG g4 vs1) mu = .ok ysB muI ∧ ysA ++ ysB = ys0 ++ ysI,
    ⟨ds1.length, by simp, Nat.zero_le _, F4, mu4, acc0, ys0, ysI, r4, .refl, st, hL, nF, ra0, by simpa using hc, rfl⟩, ?_⟩
  rintro j k H ⟨rfl, hle, F, mu, acc, ysA, ysB, r, ex, stb, hacc, nFL, ra, hc2, he⟩
  by_cases hlt : j < ds1.length
  · refine .inr ⟨it.go j H F hlt ex, _, fun H' w => ⟨ds1.length - (j + 1), by omega, w⟩, fun x H3 hy => ?_⟩
    obtain ⟨mon, rp⟩ := it.yld j ds1[j] x H F H3 (List.getElem?_eq_getElem hlt) ex hy
    have st3 := stp_yld r.mug mon
    have r3 := (r.step st3).wipe vs1
    rw [List.drop_eq_getElem_cons hlt] at hc2
    unfold compS at hc2
    refine ⟨upd H0 L (.lst acc), F0, mg, wipeG g4 vs1, mu, F, ds1[j], r3, rp, ?_⟩
    cases q : gm1 ds1[j] (wipeG g4 vs1) mu with
    | none => rw [q] at hc2; cases hc2
    | some y =>
      obtain ⟨g5, mu5⟩ := y
      rw [q] at hc2
      dsimp only at hc2 ⊢
      intro σ5 H5 so5 mo5 r5
      refine ⟨wipe_same hs1 so5, ?_⟩
      have st35 : Stp X.K mg H3 F mu5 H5 F := ⟨mo5, fun _ z => z, fun _ z => .inl z, r5.mug⟩
      have st05 := st3.trans st35
      refine ⟨_, F0, mg, g5, mu5, F, r5, ?_⟩
      cases q5 : mt1 g5 mu5 with
      | bad => rw [q5] at hc2; cases hc2
      | exc c p mu6 => rw [q5] at hc2; cases hc2
      | ok b mu6 =>
        rw [q5] at hc2
        intro H6 F6 st56
        have st06 := st05.trans st56
        have r6 := r5.step st56
        cases b with
        | false =>
          simp only [Bool.false_eq_true, if_false]
          have hc3 : compS gm1 mt1 me (ds1.drop (j + 1)) (wipeG g4 vs1) mu6 = .ok ysB muI := hc2
          exact ⟨trivial, hlt, F6, mu6, acc, ysA, ysB, r.step st06, ex.trans (r.ext st06), stb.trans st06, st06.mon L _ hacc nm, st06.out hacc nFL, ra.ext (r.ext st06) _ _, hc3, he⟩
        | true =>
          simp only [if_true]
          refine ⟨_, F0, mg, g5, mu6, F6, r6, ?_⟩
          have hc3 : ((me g5 mu6).bind fun y mu3 => (compS gm1 mt1 me (ds1.drop (j + 1)) (wipeG g4 vs1) mu3).bind fun ys mu4 => .ok (y :: ys) mu4) = .ok ysB muI := hc2
          cases q6 : me g5 mu6 with
          | bad => rw [q6] at hc3; cases hc3
          | exc c p mu7 => rw [q6] at hc3; cases hc3
          | ok y mu7 =>
            rw [q6] at hc3
            intro v H7 F7 st67 rp7
            have st07 := st06.trans st67
            have hacc7 := st07.mon L _ hacc nm
            have nF7 := st07.out hacc nFL
            have hc4 : ((compS gm1 mt1 me (ds1.drop (j + 1)) (wipeG g4 vs1) mu7).bind fun ys mu4 => (.ok (y :: ys) mu4 : R (List D))) = .ok ysB muI := hc3
            cases q7 : compS gm1 mt1 me (ds1.drop (j + 1)) (wipeG g4 vs1) mu7 with
            | bad => rw [q7] at hc4; cases hc4
            | exc c p mu8 => rw [q7] at hc4; cases hc4
            | ok ys8 mu8 =>
              rw [q7] at hc4
              injection hc4 with e1 e2
              subst e1
              subst e2
              have ra7 := ra.ext (r.ext st07) _ _
              have hw := ext_write (ws := acc ++ [v]) hacc7 nF7
              refine ⟨acc, hacc7, ?_, trivial, hlt, F7, mu7, acc ++ [v], ysA ++ [y], ys8, (r.step st07).poke hacc7 nF7 nm, (ex.trans (r.ext st07)).trans hw, stp_poke (stb.trans st07) nb hacc7 nF7 nm, upd_same, nF7, ?_, q7, by rw [← he]; simp⟩
              · rw [line_eq, ra.length]
                rw [← he, List.length_append, List.length_cons] at hlen
                omega
              · exact (ra7.app (.cons rp7 .nil)).ext hw _ _
  · have e : j = ds1.length := by omega
    subst e
    refine .inl ⟨it.stop H F ex, ?_⟩
    rw [List.drop_length] at hc2
    unfold compS at hc2
    injection hc2 with e1 e2
    subst e1
    subst e2
    rw [List.append_nil] at he
    subst he
    exact nx H F acc stb hacc nFL ra
/-- the reading of a comprehension of two clauses -/
theorem comp2_rd {gm gm1 : GM} {mt mt1 : TM} {me : EM} {im im1 : IM} {vs ws vs1 ws1 : List Nat} {σ : St} {H : Hp} {Q : VK} {H0 : Hp} {F0 F : Fz} {mg : Option Addr} {g : Gm} {mu : Mu} (hs : ∀ j ∈ ws, j ∈ vs) (hs1 : ∀ j ∈ ws1, j ∈ vs1) (r : Rel X.K H0 F0 mg g mu σ H F)
    (h : (im g mu).wp (fun ds mu1 => ∃ ys mu2, compS2 gm mt im1 vs1 gm1 mt1 me ds (wipeG g vs) mu1 = .ok ys mu2 ∧ ys.length ≤ lineN ∧
        ∀ L acc H' F', Stp X.K mg H F mu2 H' F' → mg ≠ some L → H L = none → H' L = some (.lst acc) → ¬ F' L → RpA X.K H' F' acc ys → Q (.ref L) H')
      (fun c p mu' => ∀ H' F' cls dx, Stp X.K mg H F mu' H' F' → ExcIs X.K X.mg H' F' c p cls dx → W cls dx σ H')) :
    tLc2 (tI X.K X.mg W im) (tG X.K ws gm) (tDT X.K X.mg W0 mt) (tI X.K X.mg W0 im1) (tG X.K ws1 gm1) (tDT X.K X.mg W0 mt1) (tD X.K X.mg W0 me) vs vs1 σ H Q := by
  refine ⟨H0, F0, mg, g, mu, F, r, R.wp_mono h (fun ds mu1 k J H1 F1 st it L hD => ?_) fun c p mu' hE => hE⟩
  obtain ⟨ys, mu2, hc, hlen, k⟩ := k
  have r1 := r.step st
  have hD0 : H L = none := by
    by_cases e : mg = some L
    · obtain ⟨vs, q, _⟩ := st.mug L e
      rw [hD] at q; cases q
    · exact st.mon.none e hD
  have nm : mg ≠ some L := fun e => by
    obtain ⟨vs, q, _⟩ := st.mug L e
    rw [hD] at q; cases q
  have ap : ∀ (j : Nat) es, g[j]? = some (.own es) → σ[j]? ≠ some (some (.ref L)) := fun j es h1 h2 => by
    obtain ⟨b, us, e, p1, _⟩ := r1.slot j _ _ h1 h2
    cases e
    rw [hD] at p1; cases p1
  have nF1 : ¬ F1 L := fun z => by
    obtain ⟨o, q⟩ := r1.ftr L z
    rw [hD] at q; cases q
  refine ⟨fun i n H2 => n = ds.length - i ∧ i ≤ ds.length ∧ ∃ F2 mu3 acc ys1 ys2, Stp X.K mg H1 F1 mu3 H2 F2 ∧ H2 L = some (.lst acc) ∧ ¬ F2 L ∧ RpA X.K H2 F2 acc ys1 ∧ compS2 gm mt im1 vs1 gm1 mt1 me (ds.drop i) (wipeG g vs) mu3 = .ok ys2 mu2 ∧ ys = ys1 ++ ys2,
    ⟨ds.length, by simp, Nat.zero_le _, F1, mu1, [], [], ys, stp_new st.mug hD, upd_same, nF1, .nil, by simpa using hc, rfl⟩, ?_⟩
  rintro i n H2 ⟨rfl, hle, F2, mu3, acc, ys1, ys2, st2, hacc, nF2, ra, hc2, rfl⟩
  by_cases hlt : i < ds.length
  · refine .inr ⟨it.go i H2 F2 hlt (r1.ext st2), _, fun H' w => ⟨ds.length - (i + 1), by omega, w⟩, fun x H3 hy => ?_⟩
    obtain ⟨mon, rp⟩ := it.yld i ds[i] x H2 F2 H3 (List.getElem?_eq_getElem hlt) (r1.ext st2) hy
    have r2 := r1.step st2
    have st3 := stp_yld r2.mug mon
    have st13 := st2.trans st3
    have r3 := ((r2.seat hacc nF2 ap).step st3).wipe vs
    rw [List.drop_eq_getElem_cons hlt] at hc2
    unfold compS2 at hc2
    refine ⟨upd H0 L (.lst acc), F0, mg, wipeG g vs, mu3, F2, ds[i], r3, rp, ?_⟩
    cases q : gm ds[i] (wipeG g vs) mu3 with
    | none => rw [q] at hc2; cases hc2
    | some y =>
      obtain ⟨g4, mu4⟩ := y
      rw [q] at hc2
      dsimp only at hc2 ⊢
      intro σ4 H4 so4 mo4 r4
      refine ⟨wipe_same hs so4, ?_⟩
      have st34 : Stp X.K mg H3 F2 mu4 H4 F2 := ⟨mo4, fun _ z => z, fun _ z => .inl z, r4.mug⟩
      have st24 := st3.trans st34
      have st14 := st2.trans st24
      refine ⟨_, F0, mg, g4, mu4, F2, r4, ?_⟩
      cases q5 : mt g4 mu4 with
      | bad => rw [q5] at hc2; cases hc2
      | exc c p mu5 => rw [q5] at hc2; cases hc2
      | ok b mu5 =>
        rw [q5] at hc2
        intro H5 F5 st45
        have st25 := st24.trans st45
        have st15 := st2.trans st25
        have r5 := r4.step st45
        cases b with
        | false =>
          simp only [Bool.false_eq_true, if_false]
          have hc3 : compS2 gm mt im1 vs1 gm1 mt1 me (ds.drop (i + 1)) (wipeG g vs) mu5 = .ok ys2 mu2 := hc2
          exact ⟨trivial, hlt, F5, mu5, acc, ys1, ys2, st15, st25.mon L _ hacc nm, st25.out hacc nF2, ra.ext (r2.ext st25) _ _, hc3, rfl⟩
        | true =>
          simp only [if_true]
          have hc3 : ((im1 g4 mu5).bind fun ds1 mu3 => (compS gm1 mt1 me ds1 (wipeG g4 vs1) mu3).bind fun ys mu4 => (compS2 gm mt im1 vs1 gm1 mt1 me (ds.drop (i + 1)) (wipeG g vs) mu4).bind fun zs mu5 => .ok (ys ++ zs) mu5) = .ok ys2 mu2 := hc2
          refine ⟨_, F0, mg, g4, mu5, F5, r5, ?_⟩
          cases q6 : im1 g4 mu5 with
          | bad => rw [q6] at hc3; cases hc3
          | exc c p mu6 => rw [q6] at hc3; cases hc3
          | ok ds1 mu6 =>
            rw [q6] at hc3
            have hc4 : ((compS gm1 mt1 me ds1 (wipeG g4 vs1) mu6).bind fun ys mu4 => (compS2 gm mt im1 vs1 gm1 mt1 me (ds.drop (i + 1)) (wipeG g vs) mu4).bind fun zs mu5 => (.ok (ys ++ zs) mu5 : R (List D))) = .ok ys2 mu2 := hc3
            intro J1 H6 F6 st56 it1
            have st26 := st25.trans st56
            have st16 := st2.trans st26
            have r6 := r5.step st56
            cases q7 : compS gm1 mt1 me ds1 (wipeG g4 vs1) mu6 with
            | bad => rw [q7] at hc4; cases hc4
            | exc c p mu7 => rw [q7] at hc4; cases hc4
            | ok ysI muI =>
              rw [q7] at hc4
              have hc5 : ((compS2 gm mt im1 vs1 gm1 mt1 me (ds.drop (i + 1)) (wipeG g vs) muI).bind fun zs mu5 => (.ok (ysI ++ zs) mu5 : R (List D))) = .ok ys2 mu2 := hc4
              cases q8 : compS2 gm mt im1 vs1 gm1 mt1 me (ds.drop (i + 1)) (wipeG g vs) muI with
              | bad => rw [q8] at hc5; cases hc5
              | exc c p mu7 => rw [q8] at hc5; cases hc5
              | ok zs mu8 =>
                rw [q8] at hc5
                injection hc5 with e1 e2
                subst e1
                subst e2
                have hlen2 : (ys1 ++ ysI).length ≤ lineN := by
                  rw [List.length_append, List.length_append] at hlen
                  rw [List.length_append]
                  omega
                exact comp_in hs1 r6 st16 hD nm (st26.mon L _ hacc nm) (st26.out hacc nF2) (ra.ext (r2.ext st26) _ _) it1 q7 hlen2 fun H' F' acc' st' hL' nF' ra' =>
                  ⟨trivial, hlt, F', muI, acc', ys1 ++ ysI, zs, st', hL', nF', ra', q8, by rw [List.append_assoc]⟩
  · have e : i = ds.length := by omega
    subst e
    refine .inl ⟨it.stop H2 F2 (r1.ext st2), ?_⟩
    rw [List.drop_length] at hc2
    unfold compS2 at hc2
    injection hc2 with e1 e2
    subst e1
    subst e2
    rw [List.append_nil] at k
    exact k L acc H2 F2 (st.trans st2) nm hD0 hacc nF2 ra

variable {elt tg iter tg1 iter1 : Expr} {ifs ifs1 : List Expr} {scope : Scope} {own : List (Str × Nat)} {pos : Pos} {gm gm1 : GM} {mt mt1 : TM} {me : EM} {im im1 : IM} {ws ws1 vs1 : List Nat}
theorem de_comp2 (hc : X.calm = true) (hN : X.N.Nodup) (hi : DI X W tg iter im) (ok : BlkOk X.N X.env.scope scope own) (hv : ∀ i ∈ vs1, i ∈ own.map (·.2)) (hw : ∀ j ∈ ws, j ∈ own.map (·.2)) (hw1 : ∀ j ∈ ws1, j ∈ vs1)
    (hg : ∀ (s : Shared) (H : Hp) (C : Addr) (cl : List (Str × Addr)) (fp : List Addr), DG (X.blk s H scope (compEnvC scope cl C X.env) fp) tg ws gm)
    (ht : ∀ (s : Shared) (H : Hp) (C : Addr) (cl : List (Str × Addr)) (fp : List Addr), PTs (X.blk s H scope (compEnvC scope cl C X.env) fp) ifs (tDT X.K X.mg W0 mt))
    (hi1 : ∀ (s : Shared) (H : Hp) (C : Addr) (cl : List (Str × Addr)) (fp : List Addr), DI (X.blk s H scope (compEnvC scope cl C X.env) fp) W0 tg1 iter1 im1)
    (hg1 : ∀ (s : Shared) (H : Hp) (C : Addr) (cl : List (Str × Addr)) (fp : List Addr), DG (X.blk s H scope (compEnvC scope cl C X.env) fp) tg1 ws1 gm1)
    (ht1 : ∀ (s : Shared) (H : Hp) (C : Addr) (cl : List (Str × Addr)) (fp : List Addr), PTs (X.blk s H scope (compEnvC scope cl C X.env) fp) ifs1 (tDT X.K X.mg W0 mt1))
    (he : ∀ (s : Shared) (H : Hp) (C : Addr) (cl : List (Str × Addr)) (fp : List Addr), DE (X.blk s H scope (compEnvC scope cl C X.env) fp) W0 elt me) (hs : ∀ x, foldedSetIterable iter X.env x = pure x) (hs1 : ∀ env x, foldedSetIterable iter1 env x = pure x) :
    DE X W (.ListComp elt [⟨tg, iter, ifs, 0⟩, ⟨tg1, iter1, ifs1, 0⟩] scope pos) (eComp2 (own.map (·.2)) im gm mt vs1 im1 gm1 mt1 me) := by
  refine PE_imp (pe_lc2 (g := tG X.K ws gm) (g1 := tG X.K ws1 gm1) (wi1 := tI X.K X.mg W0 im1) (te := tD X.K X.mg W0 me) hc hN hi ok hv hg ht hi1 hg1 ht1 he hs hs1) fun σ H Q ⟨H0, F0, mg, g, mu, F, r, h⟩ => ?_
  refine comp2_rd hw hw1 r (R.wp_mono (R.wp_bind.mp h) (fun ds mu1 k => ?_) fun c p mu' hE => hE)
  split at k
  · rename_i ys mu2 q
    split at k
    · rename_i c
      refine ⟨ys, mu2, q, c, fun L acc H' F' st nm h0 h1 nF ra => ?_⟩
      obtain ⟨st', rp⟩ := fz_end st nm h0 h1 ra
      exact k _ H' _ st' rp
    · exact k.elim
  · exact k.elim
theorem ds_comp2 {i : Nat} {y : Str} {py spos : Pos} (hc : X.calm = true) (hN : X.N.Nodup) (hy : X.N[i]? = some y) (hyl : X.env.scope.names.lookup y = some .local)
    (hsw : swapsWith (.ListComp elt [⟨tg, iter, ifs, 0⟩, ⟨tg1, iter1, ifs1, 0⟩] scope pos) (some (.Name y py)) spos.line X.env = pure true) (hi : DI X W tg iter im) (ok : BlkOk X.N X.env.scope scope own) (hv : ∀ i ∈ vs1, i ∈ own.map (·.2)) (hw : ∀ j ∈ ws, j ∈ own.map (·.2)) (hw1 : ∀ j ∈ ws1, j ∈ vs1)
    (hg : ∀ (s : Shared) (H : Hp) (C : Addr) (cl : List (Str × Addr)) (fp : List Addr), DG (X.blk s H scope (compEnvC scope cl C X.env) fp) tg ws gm)
    (ht : ∀ (s : Shared) (H : Hp) (C : Addr) (cl : List (Str × Addr)) (fp : List Addr), PTs (X.blk s H scope (compEnvC scope cl C X.env) fp) ifs (tDT X.K X.mg W0 mt))
    (hi1 : ∀ (s : Shared) (H : Hp) (C : Addr) (cl : List (Str × Addr)) (fp : List Addr), DI (X.blk s H scope (compEnvC scope cl C X.env) fp) W0 tg1 iter1 im1)
    (hg1 : ∀ (s : Shared) (H : Hp) (C : Addr) (cl : List (Str × Addr)) (fp : List Addr), DG (X.blk s H scope (compEnvC scope cl C X.env) fp) tg1 ws1 gm1)
    (ht1 : ∀ (s : Shared) (H : Hp) (C : Addr) (cl : List (Str × Addr)) (fp : List Addr), PTs (X.blk s H scope (compEnvC scope cl C X.env) fp) ifs1 (tDT X.K X.mg W0 mt1))
    (he : ∀ (s : Shared) (H : Hp) (C : Addr) (cl : List (Str × Addr)) (fp : List Addr), DE (X.blk s H scope (compEnvC scope cl C X.env) fp) W0 elt me) (hs : ∀ x, foldedSetIterable iter X.env x = pure x) (hs1 : ∀ env x, foldedSetIterable iter1 env x = pure x) :
    DS X W (.Assign [.Name y py] (.ListComp elt [⟨tg, iter, ifs, 0⟩, ⟨tg1, iter1, ifs1, 0⟩] scope pos) spos) (sSet i (eComp2 (own.map (·.2)) im gm mt vs1 im1 gm1 mt1 me)) := by
  refine PS_imp (ps_setLc2 (g := tG X.K ws gm) (g1 := tG X.K ws1 gm1) (wi1 := tI X.K X.mg W0 im1) (te := tD X.K X.mg W0 me) hc hN hy hyl hsw hi ok hv hg ht hi1 hg1 ht1 he hs hs1) fun Dn σ H ⟨H0, F0, mg, g, mu, F, r, h⟩ => ?_
  have h := R.wp_bind.mp (R.wp_toS.mp h)
  refine comp2_rd hw hw1 r (R.wp_mono h (fun ds mu1 k => ?_) fun c p mu' hE H' F' cls dx st x => hE σ H' F' cls dx (r.ext st) (r.step st) x)
  split at k
  · rename_i ys mu2 q
    split at k
    · rename_i c
      refine ⟨ys, mu2, q, c, fun L acc H' F' st nm h0 h1 nF ra => ?_⟩
      obtain ⟨st', rp⟩ := fz_end st nm h0 h1 ra
      have k : (sNx (setSl g i (.val (.list ys))) mu2).wp (psOf X.K X.mg W H0 F0 mg H F Dn) := k
      cases q2 : setSl g i (.val (.list ys)) with
      | none => rw [q2] at k; exact k.elim
      | some g' =>
        rw [q2] at k
        rw [setSl_some q2] at k
        exact k _ H' _ (r.ext st') ((r.step st').setVal rp)
    · exact k.elim
  · exact k.elim
end
end Wf
/-! W14: in, empty dicts, globals, parallel assignments that make own lists, a popped item within an append. -/
namespace Wf
open PySem L2

/-! ### in -/
def fIn (ng : Bool) : D → D → Option D := fun d e => match e with
  | .list ds => if SeqAt.shaped d && SeqAt.shaped (.list ds) then some (.bool (if ng then !(ds.any fun z => PyData.eqv z d) else ds.any fun z => PyData.eqv z d)) else none
  | .tuple ds => if SeqAt.shaped d && SeqAt.shaped (.tuple ds) then some (.bool (if ng then !(ds.any fun z => PyData.eqv z d) else ds.any fun z => PyData.eqv z d)) else none
  | _ => none
def rInA (K : PySem.W.Frag) (ng : Bool) : R2 := fun x y H Q => ∃ d ds, Dp K H x d ∧ (Dp K H y (.list ds) ∧ SeqAt.shaped (.list ds) = true ∨ Dp K H y (.tuple ds) ∧ SeqAt.shaped (.tuple ds) = true) ∧ SeqAt.shaped d = true ∧
  Q (.bl (if ng then !(ds.any fun z => PyData.eqv z d) else ds.any fun z => PyData.eqv z d)) H
section
variable {X : Cx}
theorem op_inA (hu : X.A.units + 65 < cLine) : OpR X (compareOp .In) (rInA X.K false) := by
  intro pins s σ H x y v u Q I rx ry h
  obtain ⟨d, ds, hd, he, sd, q⟩ := h
  obtain ⟨as, r1⟩ := Dp.reads I d x v hd rx
  rcases he with ⟨he, se⟩ | ⟨he, se⟩
  · obtain ⟨bs, r2⟩ := Dp.reads I (.list ds) y u he ry
    exact SeqAt.in_list_reads r2 r1 (SeqAt.canLay_of_shaped se) (SeqAt.canLay_of_shaped sd) (PyProof.Rows.room_in_shaped sd hu) ⟨.bl _, H, I, rfl, q⟩
  · obtain ⟨bs, r2⟩ := Dp.reads I (.tuple ds) y u he ry
    exact SeqAt.in_tuple_reads r2 r1 (SeqAt.canLay_of_shaped se) (SeqAt.canLay_of_shaped sd) (PyProof.Rows.room_in_shaped sd hu) ⟨.bl _, H, I, rfl, q⟩
theorem op_notInA (hu : X.A.units + 65 < cLine) : OpR X (compareOp .NotIn) (rInA X.K true) := by
  intro pins s σ H x y v u Q I rx ry h
  obtain ⟨d, ds, hd, he, sd, q⟩ := h
  obtain ⟨as, r1⟩ := Dp.reads I d x v hd rx
  rcases he with ⟨he, se⟩ | ⟨he, se⟩
  · obtain ⟨bs, r2⟩ := Dp.reads I (.list ds) y u he ry
    exact SeqAt.notIn_list_reads r2 r1 (SeqAt.canLay_of_shaped se) (SeqAt.canLay_of_shaped sd) (PyProof.Rows.room_in_shaped sd hu) ⟨.bl _, H, I, rfl, q⟩
  · obtain ⟨bs, r2⟩ := Dp.reads I (.tuple ds) y u he ry
    exact SeqAt.notIn_tuple_reads r2 r1 (SeqAt.canLay_of_shaped se) (SeqAt.canLay_of_shaped sd) (PyProof.Rows.room_in_shaped sd hu) ⟨.bl _, H, I, rfl, q⟩
theorem o2_in {K : PySem.W.Frag} {ng : Bool} : Op2 K (rInA K ng) (fIn ng) := by
  intro mg H F mu x y d e z Q m rx ry hz k
  unfold fIn at hz
  split at hz
  · split at hz
    · rename_i ds c
      simp only [Bool.and_eq_true] at c
      injection hz with hz
      subst hz
      exact ⟨d, ds, rx.dp d x (SeqAt.canLay_of_shaped c.1), .inl ⟨ry.dp _ y (SeqAt.canLay_of_shaped c.2), c.2⟩, c.1, k _ H F (.refl m) (.bl _)⟩
    · cases hz
  · split at hz
    · rename_i ds c
      simp only [Bool.and_eq_true] at c
      injection hz with hz
      subst hz
      exact ⟨d, ds, rx.dp d x (SeqAt.canLay_of_shaped c.1), .inr ⟨ry.dp _ y (SeqAt.canLay_of_shaped c.2), c.2⟩, c.1, k _ H F (.refl m) (.bl _)⟩
    · cases hz
  · cases hz

/-! ### constants -/
variable {W : WX} {pos : Pos} {x : Str}
theorem de_dict0 : DE X W (.Dict [] [] pos) (eC (.dict [])) := PE_imp pe_dnewK fun σ H Q ⟨H0, F0, mg, g, mu, F, r, h⟩ p hp =>
  h (.ref p) _ _ (stp_newF r.mug hp) (.dic (.inr rfl) upd_same)
theorem de_globI {i : Int} (hg : Gl X x) (hm : ∃ t, X.mg x = some (.int i t)) (hd : (x == ("__debug__" : Str)) = false) : DE X W (.Name x pos) (eC (.int i)) := by
  obtain ⟨t, hm⟩ := hm
  exact PE_imp (pe_glob (v := .int i) hg hm ⟨t, rfl⟩ hd) fun σ H Q ⟨H0, F0, mg, g, mu, F, r, h⟩ => h _ H F (.refl r.mug) (.int i)
/-- a constant of the module that stands in K -/
theorem de_globT {a : Addr} {ds : List D} (hg : Gl X x) (hm : X.mg x = some (.ref a)) (hr : ∀ H F, Rp X.K H F (.ref a) (.tuple ds)) (hd : (x == ("__debug__" : Str)) = false) : DE X W (.Name x pos) (eC (.tuple ds)) :=
  PE_imp (pe_glob (v := .ref a) hg hm rfl hd) fun σ H Q ⟨H0, F0, mg, g, mu, F, r, h⟩ => h _ H F (.refl r.mug) (hr H F)
end

/-! ### several values, own lists among them -/
abbrev PM := Gm → Mu → R (List Sl)
inductive OwnA (K : PySem.W.Frag) (H H' : Hp) (F' : Fz) : List V → List Sl → List Addr → Prop
  | nil : OwnA K H H' F' [] [] []
  | val {v : V} {d : D} {vs : List V} {ss : List Sl} {as : List Addr} : Rp K H' F' v d → OwnA K H H' F' vs ss as → OwnA K H H' F' (v :: vs) (.val d :: ss) as
  | own {L : Addr} {us : List V} {ds : List D} {vs : List V} {ss : List Sl} {as : List Addr} : H L = none → H' L = some (.lst us) → ¬ F' L → L ∉ as → RpA K H' F' us ds → OwnA K H H' F' vs ss as → OwnA K H H' F' (.ref L :: vs) (.own ds :: ss) (L :: as)
def pNil : PM := fun _ mu => .ok [] mu
def pVal (m : EM) (r : PM) : PM := fun g mu => (m g mu).bind fun d mu1 => (r g mu1).bind fun ss mu2 => .ok (.val d :: ss) mu2
def pOwn (m : AM) (r : PM) : PM := fun g mu => (m g mu).bind fun ds mu1 => if ds.length ≤ lineN then (r g mu1).bind fun ss mu2 => .ok (.own ds :: ss) mu2 else .bad
def tDP (K : PySem.W.Frag) (mc : Str → Option Value) (W : WX) (m : PM) : TA := fun σ H Q => ∃ H0 F0 mg g mu F, Rel K H0 F0 mg g mu σ H F ∧
  (m g mu).wp (fun ss mu' => ∀ vs H' F' as, Stp K mg H F mu' H' F' → OwnA K H H' F' vs ss as → Q vs H')
    (fun c p mu' => ∀ H' F' cls dx, Stp K mg H F mu' H' F' → ExcIs K mc H' F' c p cls dx → W cls dx σ H')
abbrev DP (X : Cx) (W : WX) (es : List Expr) (m : PM) : Prop := PA X es (tDP X.K X.mg W m)
section
variable {X : Cx} {W : WX} {e : Expr} {es es' : List Expr} {m : EM} {am : AM} {pm : PM} {p2 : Pos}
theorem OwnA.mem {K : PySem.W.Frag} {H H' : Hp} {F' : Fz} : ∀ {vs : List V} {ss : List Sl} {as : List Addr}, OwnA K H H' F' vs ss as → ∀ a ∈ as, H a = none
  | _, _, _, .nil, a, h => by cases h
  | _, _, _, .val _ r, a, h => r.mem a h
  | _, _, _, .own h0 _ _ _ _ r, a, h => by
    rcases List.mem_cons.mp h with e | h
    · rw [e]; exact h0
    · exact r.mem a h
theorem OwnA.from {K : PySem.W.Frag} {H H1 H' : Hp} {F' : Fz} (k : ∀ a, H1 a = none → H a = none) : ∀ {vs : List V} {ss : List Sl} {as : List Addr}, OwnA K H1 H' F' vs ss as → OwnA K H H' F' vs ss as
  | _, _, _, .nil => .nil
  | _, _, _, .val h r => .val h (OwnA.from k r)
  | _, _, _, .own h0 h1 h2 h3 h4 r => .own (k _ h0) h1 h2 h3 h4 (OwnA.from k r)
theorem dp_nil : DP X W [] pNil := PA_imp pa_nil fun σ H Q ⟨H0, F0, mg, g, mu, F, rl, h⟩ => h _ H F [] (.refl rl.mug) .nil
theorem dp_val (ha : DE X W e m) (hr : DP X W es pm) (hs : starEach (e :: es) X.env = (false, eval e X.env) :: starEach es X.env) : DP X W (e :: es) (pVal m pm) := by
  refine PA_imp (pa_cons ha hr hs) fun σ H Q ⟨H0, F0, mg, g, mu, F, rl, h⟩ => ?_
  refine tD_seq rl h (fun c p mu' hE => hE) fun d mu1 v H1 F1 st rp h1 => ?_
  have rl1 := rl.step st
  refine ⟨H0, F0, mg, g, mu1, F1, rl1, R.wp_mono (R.wp_bind.mp h1) (fun ss mu2 h2 vs H2 F2 as st2 aa => ?_) fun c p mu' hE H' F' cls dx st' x => hE H' F' cls dx (st.trans st') x⟩
  refine h2 _ H2 F2 as (st.trans st2) (.val (rp.ext (rl1.ext st2) d v) (aa.from fun a hn => ?_))
  by_cases em : mg = some a
  · obtain ⟨us, q, _⟩ := st.mug a em
    rw [hn] at q; cases q
  · exact st.mon.none em hn
theorem dp_own (ha : DA X W es' am) (hr : DP X W es pm) (hs : starEach (.List es' p2 :: es) X.env = (false, eval (.List es' p2) X.env) :: starEach es X.env) : DP X W (.List es' p2 :: es) (pOwn am pm) := by
  refine PA_imp (pa_cons (pe_lst ha) hr hs) fun σ H Q ⟨H0, F0, mg, g, mu, F, rl, h⟩ => ?_
  refine tDA_seq rl h (fun c p mu' hE => hE) fun ds mu1 us H1 F1 st ra h1 => ?_
  have rl1 := rl.step st
  split at h1
  · rename_i c
    refine ⟨by rw [line_eq, ra.length]; exact c, fun L hL => ?_⟩
    have st1 : Stp X.K mg H1 F1 mu1 (upd H1 L (.lst us)) F1 := stp_new st.mug hL
    have rl2 := rl1.step st1
    have nF : ¬ F1 L := fun z => by
      obtain ⟨o, q⟩ := rl1.ftr L z
      rw [hL] at q; cases q
    have nm : mg ≠ some L := fun e => by
      obtain ⟨us, q, _⟩ := st.mug L e
      rw [hL] at q; cases q
    have back : ∀ {a : Addr}, H1 a = none → H a = none := fun {a} hn => by
      by_cases em : mg = some a
      · obtain ⟨us, q, _⟩ := st.mug a em
        rw [hn] at q; cases q
      · exact st.mon.none em hn
    refine ⟨H0, F0, mg, g, mu1, F1, rl2, R.wp_mono (R.wp_bind.mp h1) (fun ss mu2 h2 vs H2 F2 as st2 aa => ?_) fun c p mu' hE H' F' cls dx st' x => hE H' F' cls dx ((st.trans st1).trans st') x⟩
    refine h2 _ H2 F2 (L :: as) ((st.trans st1).trans st2) (.own (back hL) (st2.mon L _ upd_same nm) (fun z => ?_) (fun z => ?_) ((ra.ext (rl1.ext st1) _ _).ext (rl2.ext st2) _ _) (aa.from fun a hn => ?_))
    · rcases st2.new L z with w | ⟨w, _⟩
      · exact nF w
      · rw [upd_same] at w; cases w
    · have q := aa.mem L z
      rw [upd_same] at q; cases q
    · refine back ?_
      by_cases e : a = L
      · rw [e]; exact hL
      · rw [upd_ne e] at hn; exact hn
  · exact h1.elim
theorem Rel.adopt {K : PySem.W.Frag} {H0 H : Hp} {F0 F : Fz} {mg : Option Addr} {g : Gm} {mu : Mu} {σ : St} (r : Rel K H0 F0 mg g mu σ H F) {i : Nat} {L : Addr} {vs : List V} {ds : List D} (h0 : H0 L = none) (h1 : H L = some (.lst vs))
    (nF : ¬ F L) (ra : RpA K H F vs ds) (ap : ∀ (j : Nat) es, g[j]? = some (.own es) → σ[j]? ≠ some (some (.ref L))) : Rel K H0 F0 mg (g.set i (.own ds)) mu (σ.set i (some (.ref L))) H F := by
  refine ⟨by simpa using r.len, fun j s o h3 h4 => ?_, fun j k ds es a h3 h4 h5 h6 => ?_, fun j ds a h3 h4 => ?_, r.f0, r.fnew, r.ftr, r.frame, r.mug, r.mu0⟩
  · by_cases e : i = j
    · subst e
      have hi : i < g.length := by
        have := (List.getElem?_eq_some_iff.mp h3).1
        simpa using this
      rw [List.getElem?_set_self hi] at h3
      rw [List.getElem?_set_self (by rw [← r.len]; exact hi)] at h4
      cases h3
      cases h4
      exact ⟨L, vs, rfl, h1, nF, ra⟩
    · rw [List.getElem?_set_ne e] at h3 h4
      exact r.slot j s o h3 h4
  · rcases own_set r h3 h5 with ⟨e1, e2⟩ | ⟨_, es1, y1, y2⟩
    · rcases own_set r h4 h6 with ⟨e3, _⟩ | ⟨_, es2, z1, z2⟩
      · rw [← e1, ← e3]
      · rw [e2] at z2
        exact absurd z2 (ap _ _ z1)
    · rcases own_set r h4 h6 with ⟨_, e4⟩ | ⟨_, es2, z1, z2⟩
      · rw [e4] at y2
        exact absurd y2 (ap _ _ y1)
      · exact r.inj j k _ _ a y1 z1 y2 z2
  · rcases own_set r h3 h4 with ⟨_, e2⟩ | ⟨_, es1, y1, y2⟩
    · rw [e2]; exact h0
    · exact r.owf j _ a y1 y2
def setSls : Gm → List Nat → List Sl → Option Gm
  | g, [], [] => some g
  | g, i :: is, s :: ss => match setSl g i s with
    | some g1 => setSls g1 is ss
    | none => none
  | _, _, _ => none
def setVs : St → List Nat → List V → St
  | σ, i :: is, v :: vs => setVs (σ.set i (some v)) is vs
  | σ, _, _ => σ
theorem Rel.setAll {K : PySem.W.Frag} {H0 H H' : Hp} {F0 F' : Fz} {mg : Option Addr} {mu : Mu} (k0 : ∀ a, H a = none → mg ≠ some a → H0 a = none) (nmg : ∀ a, H a = none → mg ≠ some a) : ∀ {is : List Nat} {vs : List V} {ss : List Sl} {as : List Addr} {g g' : Gm} {σ : St}, Rel K H0 F0 mg g mu σ H' F' →
    OwnA K H H' F' vs ss as → (∀ L ∈ as, ∀ (j : Nat) es, g[j]? = some (.own es) → σ[j]? ≠ some (some (.ref L))) → setSls g is ss = some g' → Rel K H0 F0 mg g' mu (setVs σ is vs) H' F'
  | [], _, _, _, _, _, _, r, .nil, _, h => by
    unfold setSls at h
    injection h with h
    subst h
    exact r
  | [], _, _, _, _, _, _, r, .val _ _, _, h => by cases h
  | [], _, _, _, _, _, _, r, .own _ _ _ _ _ _, _, h => by cases h
  | i :: is, _, _, _, _, _, _, r, .nil, _, h => by cases h
  | i :: is, _, _, as, g, g', σ, r, .val (v := v) (d := d) (vs := vs) (ss := ss) rp rest, ap, h => by
    unfold setSls at h
    cases q : setSl g i (.val d) with
    | none => rw [q] at h; cases h
    | some g1 =>
      rw [q] at h
      have e := setSl_some q
      subst e
      show Rel K H0 F0 mg g' mu (setVs (σ.set i (some v)) is vs) H' F'
      refine Rel.setAll k0 nmg (r.setVal rp) rest (fun L hL j es h1 => ?_) h
      by_cases e : i = j
      · subst e
        have hi : i < g.length := by
          have := (List.getElem?_eq_some_iff.mp h1).1
          simpa using this
        rw [List.getElem?_set_self hi] at h1; cases h1
      · rw [List.getElem?_set_ne e] at h1 ⊢
        exact ap L hL j es h1
  | i :: is, _, _, _, g, g', σ, r, .own (L := L) (us := us) (ds := ds) (vs := vs) (ss := ss) (as := as) h0 h1 h2 h3 h4 rest, ap, h => by
    unfold setSls at h
    cases q : setSl g i (.own ds) with
    | none => rw [q] at h; cases h
    | some g1 =>
      rw [q] at h
      have e := setSl_some q
      subst e
      show Rel K H0 F0 mg g' mu (setVs (σ.set i (some (.ref L))) is vs) H' F'
      refine Rel.setAll k0 nmg (r.adopt (k0 L h0 (nmg L h0)) h1 h2 h4 (ap L List.mem_cons_self)) rest (fun M hM j es h5 h6 => ?_) h
      rcases own_set r h5 h6 with ⟨_, e⟩ | ⟨_, es2, y1, y2⟩
      · exact h3 (by rw [← e]; exact hM)
      · exact ap M (List.mem_cons_of_mem _ hM) j es2 y1 y2
theorem OwnA.length {K : PySem.W.Frag} {H H' : Hp} {F' : Fz} : ∀ {vs : List V} {ss : List Sl} {as : List Addr}, OwnA K H H' F' vs ss as → vs.length = ss.length
  | _, _, _, .nil => rfl
  | _, _, _, .val _ r => by rw [List.length_cons, List.length_cons, OwnA.length r]
  | _, _, _, .own _ _ _ _ _ r => by rw [List.length_cons, List.length_cons, OwnA.length r]
theorem setSls_len : ∀ {g : Gm} {is : List Nat} {ss : List Sl} {g' : Gm}, setSls g is ss = some g' → is.length = ss.length
  | g, [], [], _, _ => rfl
  | g, [], _ :: _, _, h => by cases h
  | g, _ :: _, [], _, h => by cases h
  | g, i :: is, s :: ss, g', h => by
    unfold setSls at h
    cases q : setSl g i s with
    | none => rw [q] at h; cases h
    | some g1 =>
      rw [q] at h
      rw [List.length_cons, List.length_cons, setSls_len h]
/-- a, b = e1, e2 with own lists among them -/
def sParO (is : List Nat) (m : PM) : SM := fun g mu => (m g mu).toS g fun ss mu1 => sNx (setSls g is ss) mu1
theorem par_rd {σ : St} {H : Hp} {Dn : Ends} {is : List Nat} (h : tS X.K X.mg W (sParO is pm) Dn σ H) : tDP X.K X.mg W pm σ H fun vs H1 => vs.length = is.length ∧ Dn.nx (setVs σ is vs) H1 := by
  obtain ⟨H0, F0, mg, g, mu, F, r, h⟩ := h
  refine ⟨H0, F0, mg, g, mu, F, r, R.wp_mono (R.wp_toS.mp h) (fun ss mu1 k vs H1 F1 as st aa => ?_) fun c p mu' hE H' F' cls dx st x => hE σ H' F' cls dx (r.ext st) (r.step st) x⟩
  cases q : setSls g is ss with
  | none => rw [q] at k; exact k.elim
  | some g' =>
    rw [q] at k
    refine ⟨by rw [aa.length, setSls_len q], ?_⟩
    refine k _ H1 F1 (r.ext st) (Rel.setAll (H := H) (fun a hn n => ?_) (fun a hn e => ?_) (r.step st) aa (fun L hL j es h1 h2 => ?_) q)
    · cases e : H0 a with
      | none => rfl
      | some o =>
        rw [r.frame a o e n] at hn; cases hn
    · obtain ⟨us, q, _⟩ := r.mug a e
      rw [hn] at q; cases q
    · have hn := aa.mem L hL
      obtain ⟨b, us, e, p1, _⟩ := r.slot j _ _ h1 h2
      cases e
      rw [hn] at p1; cases p1
theorem ds_par2 {i j : Nat} {x y : Str} {a b : Expr} {px py pt pt2 pos : Pos} {kt k2 : Nat} (hc : X.calm = true) (hN : X.N.Nodup) (hi : X.N[i]? = some x) (hj : X.N[j]? = some y) (hij : i ≠ j) (hx : X.env.scope.names.lookup x = some .local)
    (hy : X.env.scope.names.lookup y = some .local) (ha : DP X W [a, b] pm) (hw : swappedStores [.Tuple [.Name x px, .Name y py] kt pt] (.Tuple [a, b] k2 pt2) X.env = pure (some [x, y]))
    (hs : swapsWithSole [.Tuple [.Name x px, .Name y py] kt pt] (.Tuple [a, b] k2 pt2) pos.line X.env = pure false) :
    DS X W (.Assign [.Tuple [.Name x px, .Name y py] kt pt] (.Tuple [a, b] k2 pt2) pos) (sParO [i, j] pm) := by
  refine PS_imp (ps_par hc hN hi hj hij hx hy ha hw hs) fun Dn σ H h => ?_
  obtain ⟨H0, F0, mg, g, mu, F, r, q⟩ := par_rd h
  refine ⟨H0, F0, mg, g, mu, F, r, R.wp_mono q (fun ss mu1 k vs H1 F1 as st aa => ?_) fun c p mu' hE => hE⟩
  obtain ⟨hl, k⟩ := k vs H1 F1 as st aa
  match vs, hl, k with
  | [v, u], _, k => exact ⟨v, u, rfl, k⟩
theorem ds_par3 {i j l : Nat} {x y z : Str} {a b c : Expr} {px py pz pt pt2 pos : Pos} {kt k2 : Nat} (hc : X.calm = true) (hN : X.N.Nodup) (hi : X.N[i]? = some x) (hj : X.N[j]? = some y) (hl : X.N[l]? = some z) (hij : i ≠ j) (hil : i ≠ l) (hjl : j ≠ l)
    (hx : X.env.scope.names.lookup x = some .local) (hy : X.env.scope.names.lookup y = some .local) (hz : X.env.scope.names.lookup z = some .local) (ha : DP X W [a, b, c] pm)
    (hw : swappedStores [.Tuple [.Name x px, .Name y py, .Name z pz] kt pt] (.Tuple [a, b, c] k2 pt2) X.env = pure (some [x, y, z]))
    (hs : swapsWithSole [.Tuple [.Name x px, .Name y py, .Name z pz] kt pt] (.Tuple [a, b, c] k2 pt2) pos.line X.env = pure false) :
    DS X W (.Assign [.Tuple [.Name x px, .Name y py, .Name z pz] kt pt] (.Tuple [a, b, c] k2 pt2) pos) (sParO [i, j, l] pm) := by
  refine PS_imp (ps_par3 hc hN hi hj hl hij hil hjl hx hy hz ha hw hs) fun Dn σ H h => ?_
  obtain ⟨H0, F0, mg, g, mu, F, r, q⟩ := par_rd h
  refine ⟨H0, F0, mg, g, mu, F, r, R.wp_mono q (fun ss mu1 k vs H1 F1 as st aa => ?_) fun c p mu' hE => hE⟩
  obtain ⟨hl, k⟩ := k vs H1 F1 as st aa
  match vs, hl, k with
  | [v, u, t], _, k => exact ⟨v, u, t, rfl, k⟩
end

/-! ### row.append((pool.pop(e1), e2)), row.append(pool.pop(e1)) -/
def sAppPop (i j : Nat) (m1 m2 : EM) : SM := fun g mu => match g[i]?, g[j]? with
  | some (.own ds), some (.own ps) => (m1 g mu).toS g fun d mu1 => match d with
    | .int k => if 0 ≤ k ∧ k < 2 ^ 63 ∧ i ≠ j ∧ ds.length < lineN then (match ps[k.toNat]? with
      | some z => (m2 (g.set j (.own (ps.eraseIdx k.toNat))) mu1).toS (g.set j (.own (ps.eraseIdx k.toNat))) fun d2 mu2 => .nx ((g.set j (.own (ps.eraseIdx k.toNat))).set i (.own (ds ++ [.tuple [z, d2]]))) mu2
      | none => .bad) else .bad
    | _ => .bad
  | _, _ => .bad
def sAppPop1 (i j : Nat) (m1 : EM) : SM := fun g mu => match g[i]?, g[j]? with
  | some (.own ds), some (.own ps) => (m1 g mu).toS g fun d mu1 => match d with
    | .int k => if 0 ≤ k ∧ k < 2 ^ 63 ∧ i ≠ j ∧ ds.length < lineN then (match ps[k.toNat]? with
      | some z => .nx ((g.set j (.own (ps.eraseIdx k.toNat))).set i (.own (ds ++ [z]))) mu1
      | none => .bad) else .bad
    | _ => .bad
  | _, _ => .bad
theorem RpA.erase {K : PySem.W.Frag} {H : Hp} {F : Fz} : ∀ (n : Nat) {vs : List V} {ds : List D}, RpA K H F vs ds → RpA K H F (vs.eraseIdx n) (ds.eraseIdx n)
  | _, _, [], .nil => by simpa using RpA.nil
  | 0, _, _ :: _, .cons _ t => by simpa using t
  | n + 1, _, _ :: _, .cons r t => by simpa using RpA.cons r (RpA.erase n t)
theorem seqIx {k : Int} {n : Nat} (h0 : 0 ≤ k) (h : k.toNat < n) : seqIndex? k n = some k.toNat := by
  have e1 : ¬ k < 0 := by omega
  have e2 : (decide (0 ≤ k) && decide (k < (n : Int))) = true := by
    rw [Bool.and_eq_true]
    exact ⟨decide_eq_true h0, decide_eq_true (by omega)⟩
  unfold seqIndex?
  simp only [e1, if_false]
  rw [if_pos e2]
/-- pool.pop(e1) within an expression: from the state at hand; k: what is done with the item -/
theorem pop_rd {X : Cx} {W : WX} {j : Nat} {m1 : EM} {σ : St} {H H0 : Hp} {F0 F : Fz} {mg : Option Addr} {g : Gm} {mu : Mu} {Q : VK} (r : Rel X.K H0 F0 mg g mu σ H F) {qs : List D} (hj : g[j]? = some (.own qs))
    (h : (m1 g mu).wp (fun d mu1 => ∃ k ps z, d = .int k ∧ g[j]? = some (.own ps) ∧ 0 ≤ k ∧ k < 2 ^ 63 ∧ ps[k.toNat]? = some z ∧
      ∀ v H' F', Ext H F H' F' → Rel X.K H0 F0 mg (g.set j (.own (ps.eraseIdx k.toNat))) mu1 σ H' F' → Rp X.K H' F' v z → Q v H')
      (fun c p mu' => ∀ H' F' cls dx, Stp X.K mg H F mu' H' F' → ExcIs X.K X.mg H' F' c p cls dx → W cls dx σ H')) :
    tBM X.K "list" rPopAt (tVar j) (tCons (tD X.K X.mg W m1) tNil) σ H Q := by
  obtain ⟨a, vs, hσ, ha, nF, ra⟩ := r.own_at hj
  refine ⟨_, hσ, .inl ⟨rfl, _, SqL.of ha⟩, H0, F0, mg, g, mu, F, r, R.wp_mono h (fun d mu1 k v H1 F1 st rp => ?_) fun c p mu' hE => hE⟩
  obtain ⟨k, ps, z, rfl, hp, h0, h63, hz, cont⟩ := k
  rw [hj] at hp
  cases hp
  cases rp
  have r1 := r.step st
  obtain ⟨a', vs', hσ', ha', nF', ra'⟩ := r1.own_at hj
  rw [hσ] at hσ'
  cases hσ'
  obtain ⟨y, hy, ry⟩ := ra'.get hz
  have hlt := (List.getElem?_eq_some_iff.mp hy).1
  refine ⟨a, vs', k, k.toNat, y, rfl, rfl, ha', by omega, h63, seqIx h0 hlt, hy, ?_⟩
  have ex := ext_write (ws := vs'.eraseIdx k.toNat) ha' nF'
  exact cont y _ F1 ((r.ext st).trans ex) (r1.wrOwn hj hσ ha' (ra'.erase _)) (ry.ext ex _ _)
section
variable {X : Cx} {W : WX} {x y : Str} {i j : Nat} {m1 m2 : EM} {e1 e2 : Expr} {p1 p2 p3 q1 q2 q3 tp pos : Pos} {kk : Nat}
theorem ds_appPop (hN : X.N[i]? = some x) (hv : Vis X.env.scope x) (hd : (x == ("__debug__" : Str)) = false) (hcd : (x == ("__classdict__" : Str)) = false) (hN2 : X.N[j]? = some y) (hv2 : Vis X.env.scope y) (hd2 : (y == ("__debug__" : Str)) = false)
    (hcd2 : (y == ("__classdict__" : Str)) = false) (h1 : DE X W e1 m1) (h2 : DE X W e2 m2) (hst1 : starEach [e1] X.env = [(false, eval e1 X.env)])
    (hst2 : starEach [.Call (.Attribute (.Name y q1) "pop" q2) [e1] [] q3, e2] X.env = (false, eval (.Call (.Attribute (.Name y q1) "pop" q2) [e1] [] q3) X.env) :: starEach [e2] X.env) (hst3 : starEach [e2] X.env = [(false, eval e2 X.env)])
    (hst : starEach [.Tuple [.Call (.Attribute (.Name y q1) "pop" q2) [e1] [] q3, e2] kk tp] X.env = [(false, eval (.Tuple [.Call (.Attribute (.Name y q1) "pop" q2) [e1] [] q3, e2] kk tp) X.env)]) (hl : (p2.endLine == p3.line) = true) (hl2 : (q2.endLine == q3.line) = true)
    (hs : swapsWith (.Call (.Attribute (.Name x p1) "append" p2) [.Tuple [.Call (.Attribute (.Name y q1) "pop" q2) [e1] [] q3, e2] kk tp] [] p3) none pos.line X.env = pure false) :
    DS X W (.Expr (.Call (.Attribute (.Name x p1) "append" p2) [.Tuple [.Call (.Attribute (.Name y q1) "pop" q2) [e1] [] q3, e2] kk tp] [] p3) pos) (sAppPop i j m1 m2) := by
  have hst' : starEach [.Tuple [.Call (.Attribute (.Name y q1) "pop" q2) [e1] [] q3, e2] kk tp] X.env = (false, eval (.Tuple [.Call (.Attribute (.Name y q1) "pop" q2) [e1] [] q3, e2] kk tp) X.env) :: starEach [] X.env := hst
  have hst1' : starEach [e1] X.env = (false, eval e1 X.env) :: starEach [] X.env := hst1
  have hst3' : starEach [e2] X.env = (false, eval e2 X.env) :: starEach [] X.env := hst3
  have pop := pe_bm (apos := q2) (cpos := q3) PySem.F.plainAttrs_list PySem.F.slot_list_pop PySem.F.type_list_pop (X := X) mt_popAt (pe_var (pos := q1) hN2 hv2 hd2 hcd2) (pa_cons h1 pa_nil hst1') rfl (few1 hst1) hl2 hst1' rfl
  refine PS_imp (ps_expr (pe_bm PySem.F.plainAttrs_list PySem.F.slot_list_append PySem.F.type_list_append mt_append (pe_var hN hv hd hcd) (pa_cons (pe_tup (pa_cons pop (pa_cons h2 pa_nil hst3') hst2)) pa_nil hst') rfl (few1 hst) hl hst' rfl) hs) fun Dn σ H ⟨H0, F0, mg, g, mu, F, r, h⟩ => ?_
  unfold sAppPop at h
  split at h
  · rename_i ds ps q qj
    obtain ⟨a, vs, hσ, ha, nF, ra⟩ := r.own_at q
    refine ⟨_, hσ, .inl ⟨rfl, _, SqL.of ha⟩, ?_⟩
    have h := R.wp_toS.mp h
    refine pop_rd r qj (R.wp_mono h (fun d mu1 k => ?_) fun c p mu' hE H' F' cls dx st x => hE σ H' F' cls dx (r.ext st) (r.step st) x)
    split at k
    · rename_i kk
      split at k
      · rename_i c
        split at k
        · rename_i z qz
          refine ⟨kk, ps, z, rfl, qj, c.1, c.2.1, qz, fun v H1 F1 ex1 r1 rp => ?_⟩
          have k := R.wp_toS.mp (psOf_ext ex1 k)
          refine ⟨H0, F0, mg, _, mu1, F1, r1, R.wp_mono k (fun d2 mu2 k2 v2 H2 F2 st2 rp2 => ?_) fun c p mu' hE H' F' cls dx st x => hE σ H' F' cls dx (r1.ext st) (r1.step st) x⟩
          refine ⟨by show 2 ≤ sizeLine; decide, fun T hT => ?_⟩
          have r2 := r1.step st2
          have st3 : Stp X.K mg H2 F2 mu2 (upd H2 T (.tup [v, v2])) F2 := stp_new st2.mug hT
          have r3 := r2.step st3
          have q3 : (g.set j (.own (ps.eraseIdx kk.toNat)))[i]? = some (.own ds) := by
            rw [List.getElem?_set_ne (fun e => c.2.2.1 e.symm)]; exact q
          obtain ⟨a', vs', hσ', ha', nF', ra'⟩ := r3.own_at q3
          rw [hσ] at hσ'
          cases hσ'
          refine ⟨a, vs', .ref T, rfl, rfl, ha', by rw [line_eq, ra'.length]; exact c.2.2.2, ?_⟩
          have rt : Rp X.K (upd H2 T (.tup [v, v2])) F2 (.ref T) (.tuple [z, d2]) := rp_tup hT (.cons (rp.ext (r1.ext st2) _ _) (.cons rp2 .nil))
          exact k2 σ _ F2 (((r1.ext st2).trans (r2.ext st3)).trans (ext_write ha' nF')) (r3.wrOwn q3 hσ ha' (ra'.app (.cons rt .nil)))
        · exact k.elim
      · exact k.elim
    · exact k.elim
  · exact h.elim
theorem ds_appPop1 (hN : X.N[i]? = some x) (hv : Vis X.env.scope x) (hd : (x == ("__debug__" : Str)) = false) (hcd : (x == ("__classdict__" : Str)) = false) (hN2 : X.N[j]? = some y) (hv2 : Vis X.env.scope y) (hd2 : (y == ("__debug__" : Str)) = false)
    (hcd2 : (y == ("__classdict__" : Str)) = false) (h1 : DE X W e1 m1) (hst1 : starEach [e1] X.env = [(false, eval e1 X.env)])
    (hst : starEach [.Call (.Attribute (.Name y q1) "pop" q2) [e1] [] q3] X.env = [(false, eval (.Call (.Attribute (.Name y q1) "pop" q2) [e1] [] q3) X.env)]) (hl : (p2.endLine == p3.line) = true) (hl2 : (q2.endLine == q3.line) = true)
    (hs : swapsWith (.Call (.Attribute (.Name x p1) "append" p2) [.Call (.Attribute (.Name y q1) "pop" q2) [e1] [] q3] [] p3) none pos.line X.env = pure false) :
    DS X W (.Expr (.Call (.Attribute (.Name x p1) "append" p2) [.Call (.Attribute (.Name y q1) "pop" q2) [e1] [] q3] [] p3) pos) (sAppPop1 i j m1) := by
  have hst' : starEach [.Call (.Attribute (.Name y q1) "pop" q2) [e1] [] q3] X.env = (false, eval (.Call (.Attribute (.Name y q1) "pop" q2) [e1] [] q3) X.env) :: starEach [] X.env := hst
  have hst1' : starEach [e1] X.env = (false, eval e1 X.env) :: starEach [] X.env := hst1
  have pop := pe_bm (apos := q2) (cpos := q3) PySem.F.plainAttrs_list PySem.F.slot_list_pop PySem.F.type_list_pop (X := X) mt_popAt (pe_var (pos := q1) hN2 hv2 hd2 hcd2) (pa_cons h1 pa_nil hst1') rfl (few1 hst1) hl2 hst1' rfl
  refine PS_imp (ps_expr (pe_bm PySem.F.plainAttrs_list PySem.F.slot_list_append PySem.F.type_list_append mt_append (pe_var hN hv hd hcd) (pa_cons pop pa_nil hst') rfl (few1 hst) hl hst' rfl) hs) fun Dn σ H ⟨H0, F0, mg, g, mu, F, r, h⟩ => ?_
  unfold sAppPop1 at h
  split at h
  · rename_i ds ps q qj
    obtain ⟨a, vs, hσ, ha, nF, ra⟩ := r.own_at q
    refine ⟨_, hσ, .inl ⟨rfl, _, SqL.of ha⟩, ?_⟩
    have h := R.wp_toS.mp h
    refine pop_rd r qj (R.wp_mono h (fun d mu1 k => ?_) fun c p mu' hE H' F' cls dx st x => hE σ H' F' cls dx (r.ext st) (r.step st) x)
    split at k
    · rename_i kk
      split at k
      · rename_i c
        split at k
        · rename_i z qz
          refine ⟨kk, ps, z, rfl, qj, c.1, c.2.1, qz, fun v H1 F1 ex1 r1 rp => ?_⟩
          have k := psOf_ext ex1 k
          have q3 : (g.set j (.own (ps.eraseIdx kk.toNat)))[i]? = some (.own ds) := by
            rw [List.getElem?_set_ne (fun e => c.2.2.1 e.symm)]; exact q
          obtain ⟨a', vs', hσ', ha', nF', ra'⟩ := r1.own_at q3
          rw [hσ] at hσ'
          cases hσ'
          refine ⟨a, vs', v, rfl, rfl, ha', by rw [line_eq, ra'.length]; exact c.2.2.2, ?_⟩
          exact k σ _ F1 (ext_write ha' nF') (r1.wrOwn q3 hσ ha' (ra'.app (.cons rp .nil)))
        · exact k.elim
      · exact k.elim
    · exact k.elim
  · exact h.elim
end
end Wf
/-! W15: facts by names, defs and classes in bundles, the head's end. -/
namespace Wf
open PySem PySem.Spec L2
open PyProof.Rows hiding St
open He (ga ma ba eqO eqO_ok)

/-! ### facts -/
inductive Fc where
  | fa (f : He.Fa)
  | tupI (x : Str) (ns : List Int)
  | exc (c f : Str)
def oexB (K : PySem.W.Frag) (C : Addr) : Bool := match K.lookup C with
  | some ⟨.type "type", _, .cls cd, sl⟩ => (match cd.mro, sl.toList with
    | .ref C' :: bm, [_, _, _, _, some (.builtin n), _] => C' == C && n == "ValueError.__new__" && !cd.hasDel && cd.hasDict && PySem.HandSPX.refsVE bm
    | _, _ => false)
  | _ => false
theorem oexB_ok {K : PySem.W.Frag} {C : Addr} (q : oexB K C = true) : ∃ nm q N bs bm sn sub ab col dd k0 k1 k2 k3 k5, K.lookup C = some (excClassObj nm q C N bs bm true sn sub ab col dd k0 k1 k2 k3 k5 "ValueError.__new__") ∧ PySem.HandSPX.refsVE bm = true := by
  unfold oexB at q
  split at q
  · rename_i dd cd sl ho
    split at q
    · rename_i C' bm k0 k1 k2 k3 n k5 hm hs
      simp only [Bool.and_eq_true, beq_iff_eq, Bool.not_eq_true'] at q
      obtain ⟨⟨⟨⟨e1, e2⟩, hdel⟩, hdict⟩, ht⟩ := q
      subst e1 e2
      obtain ⟨nm, bs, mro, ns, qn, hd, sn, sub, ab, col, del⟩ := cd
      dsimp only at hm hdel hdict
      subst hm hdel hdict
      have hsl : sl = #[k0, k1, k2, k3, some (.builtin "ValueError.__new__"), k5] := by
        obtain ⟨l⟩ := sl
        simp only at hs
        rw [hs]
      subst hsl
      exact ⟨nm, qn, ns, bs, bm, sn, sub, ab, col, dd, k0, k1, k2, k3, k5, ho, ht⟩
    · cases q
  · cases q
def Fc.ok (K : PySem.W.Frag) : Fc → Bool
  | .fa f => f.ok K
  | .tupI x ns => (He.Fa.glo x).ok K && He.tupB K x (ns.map He.Dv.int)
  | .exc c f => L2.xfB K (ga K c) && ((He.Fa.glo c).ok K && (oexB K (ga K c) && (eqO (PySem.W.findIn K (.ref (ga K c)) "__setattr__") (some (some (.builtin "object.__setattr__"))) && (decide (PySem.W.subIn K (.ref (ga K c)) (.type "BaseException") = some true) &&
    (decide (PySem.W.typeIn K (.ref (ga K c)) = some (.type "type")) && (PySem.W.keepIn K (.ref (ga K c)) && (eqO (PySem.W.findIn K (.ref (ga K c)) f) (some none) &&
    (eqO (PySem.W.findIn K (.ref (ga K c)) "__init__") (some (some (.ref (ma K (ga K c) "__init__")))) && decide (PySem.W.typeIn K (.ref (ma K (ga K c) "__init__")) = some (.type "function"))))))))))
def obsW (fc : List Fc) (fn : List He.DefD) (K : PySem.W.Frag) : He.AlD := ((fc.all fun f => f.ok K) && fn.all fun d => d.ok K, fn.map fun d => He.fnW K d.at_)
def valW (fn : List He.DefD) : He.AlD := (true, fn.map He.DefD.val)
def obsWG (n : Nat) (fc : List Fc) (fn : List He.DefD) (g : Addr → Option Obj) : He.AlD := obsW fc fn (He.frG g (He.asD g n))
def hookW (n : Nat) (fc : List Fc) (fn : List He.DefD) : PySem.W.Hook where
  α := He.AlD
  obs := fun s => obsWG n fc fn s.heap.get?
  val := fun _ => valW fn
  says := fun _ h => ∃ K : PySem.W.Frag, K.In h ∧ obsW fc fn K = valW fn
  of := fun _ _ e => ⟨_, He.frG_in, e⟩
  keeps := fun _ _ _ ⟨K, hK, c⟩ k => ⟨K, PySem.W.Frag.In.keeps hK k, c⟩
theorem obsWG_eq {n : Nat} {fc : List Fc} {fn : List He.DefD} {g : Addr → Option Obj} {s : Shared} (h : ∀ a, g a = s.heap.get? a) : obsWG n fc fn g = (hookW n fc fn).obs s := by
  have e : g = s.heap.get? := funext h
  rw [e]
  rfl
/-- what the top's end says -/
structure Says (fc : List Fc) (fn : List He.DefD) (K : PySem.W.Frag) (mg : Str → Option Value) : Prop where
  d : obsW fc fn K = valW fn
  h : ∃ h : Heap, K.In h ∧ h.Ns mainGlobals mg
namespace Says
variable {fc : List Fc} {fn : List He.DefD} {K : PySem.W.Frag} {mg : Str → Option Value} {x c f : Str}
theorem fact (S : Says fc fn K mg) (i : Nat) {f : Fc} (h : fc[i]? = some f) : f.ok K = true := by
  have c1 := (ba (show ((fc.all fun f => f.ok K) && fn.all fun d => d.ok K) = true from congrArg (fun z : He.AlD => z.1) S.d)).1
  exact List.all_eq_true.mp c1 f (List.mem_of_getElem? h)
theorem defn (S : Says fc fn K mg) (i : Nat) {d : He.DefD} (h : fn[i]? = some d) : ∃ fd, FunD K d.name d.qual d.params d.body d.scope (d.dvs K) (d.kws K) (He.fAd K d.at_) fd := by
  have c2 := (ba (show ((fc.all fun f => f.ok K) && fn.all fun d => d.ok K) = true from congrArg (fun z : He.AlD => z.1) S.d)).2
  have e : fn.map (fun d => He.fnW K d.at_) = fn.map He.DefD.val := congrArg (fun z : He.AlD => z.2) S.d
  have e2 : (fn.map fun d => He.fnW K d.at_)[i]? = (fn.map He.DefD.val)[i]? := by rw [e]
  rw [List.getElem?_map, List.getElem?_map, h] at e2
  exact He.DefD.funD (Option.some.inj e2) (List.all_eq_true.mp c2 d (List.mem_of_getElem? h))
theorem glo (S : Says fc fn K mg) (i : Nat) (h : fc[i]? = some (.fa (.glo x))) : mg x = some (.ref (ga K x)) := by
  obtain ⟨hp, X, G⟩ := S.h
  exact He.glo_ok X G (S.fact i h)
theorem free (S : Says fc fn K mg) (i : Nat) (h : fc[i]? = some (.fa (.free x))) : mg x = none := by
  obtain ⟨hp, X, G⟩ := S.h
  exact He.free_ok X G (S.fact i h)
theorem int (S : Says fc fn K mg) (i : Nat) {n : Int} (h : fc[i]? = some (.fa (.int x n))) : ∃ t, mg x = some (.int n t) := by
  obtain ⟨hp, X, G⟩ := S.h
  exact He.int_ok X G (S.fact i h)
theorem exm (S : Says fc fn K mg) (i : Nat) {y : Str} {b : Bool} (h : fc[i]? = some (.fa (.exm x y b))) : PySem.W.exmOne K (.ref (ga K x)) (.ref (ga K y)) = some b := He.exm_ok (S.fact i h)
theorem tupG (S : Says fc fn K mg) (i : Nat) {ns : List Int} (h : fc[i]? = some (.tupI x ns)) : mg x = some (.ref (ga K x)) := by
  obtain ⟨hp, X, G⟩ := S.h
  exact He.glo_ok X G (ba (S.fact i h)).1
theorem tupR (S : Says fc fn K mg) (i : Nat) {ns : List Int} (h : fc[i]? = some (.tupI x ns)) (H : Hp) (F : Fz) : Rp K H F (.ref (ga K x)) (.tuple (ns.map PyData.int)) := by
  have z := He.tupB_ok (ba (S.fact i h)).2 H
  rw [List.map_map] at z
  refine .tup z ?_
  clear z h
  induction ns with
  | nil => exact .nil
  | cons n ns ih => exact .cons (.int n) ih
theorem excG (S : Says fc fn K mg) (i : Nat) (h : fc[i]? = some (.exc c f)) : mg c = some (.ref (ga K c)) := by
  obtain ⟨hp, X, G⟩ := S.h
  exact He.glo_ok X G (ba (ba (S.fact i h)).2).1
end Says

/-! ### an exception class with one field -/
structure ExX (P : Program) (w : World) (K : PySem.W.Frag) (mg : Str → Option Value) (base : Heap) (c f : Str) : Prop where
  ex : ∃ (C fI : Addr) (fd : FuncData), ExC P w K mg base c f C fI fd ∧ XfC K C
theorem exc_of {P : Program} {w : World} {fc : List Fc} {fn : List He.DefD} {K : PySem.W.Frag} {mg : Str → Option Value} {base : Heap} {c f : Str} (S : Says fc fn K mg) (i : Nat) (h : fc[i]? = some (.exc c f)) {x qual : Str} {params : Arguments} {body : List Stmt} {scope : Scope} {fd : FuncData}
    (Fu : FunD K x qual params body scope [] [] (ma K (ga K c) "__init__") fd) (Sc : FnScope ["self", f] ["self", f] scope) (hb : ∀ (kV doc pm : Value) (an : Option Addr) (cdv ct : Value) (us : List Value), us.length = 2 → bindArgs (PySem.W.fnOf x qual params body scope .none kV doc pm an cdv ct) ⟨us, []⟩ = pure ((["self", f] : List Str).zip us))
    (hbody : ∀ (cdv : Value) (A : Around) (outer : List Env) (s : Shared) (H : Hp) (E : XK), PSs (cxOf CX0 P w K mg base ["self", f] qual scope (ma K (ga K c) "__init__") cdv A outer s H E) body (tOst K f (tVar 0) (tVar 1))) :
    ExX P w K mg base c f := by
  obtain ⟨c0, k⟩ := ba (S.fact i h)
  obtain ⟨c1, k⟩ := ba k
  obtain ⟨c2, k⟩ := ba k
  obtain ⟨c3, k⟩ := ba k
  obtain ⟨c4, k⟩ := ba k
  obtain ⟨c5, k⟩ := ba k
  obtain ⟨c6, k⟩ := ba k
  obtain ⟨c7, k⟩ := ba k
  obtain ⟨c8, c9⟩ := ba k
  refine ⟨⟨ga K c, ma K (ga K c) "__init__", fd, ?_, xfB_ok c0⟩⟩
  refine ⟨S.excG i h, ⟨oexB_ok c2, eqO_ok c3, of_decide_eq_true c4, of_decide_eq_true c5, c6⟩, eqO_ok c7, eqO_ok c8, of_decide_eq_true c9, ?_, ?_⟩
  · refine Fu.ok Sc (fun vs H Q E h => ?_) fun cdv A outer s H vs Q E hr h => ⟨_, hbody cdv A outer s H E, ?_⟩
    · obtain ⟨a, C, v, rfl, _⟩ := h
      rfl
    · obtain ⟨a, C, v, rfl, T, hn, ha, k⟩ := h
      exact ⟨v, rfl, .ref a, rfl, a, C, rfl, T, hn, .inl ⟨ha, fun dx n ne => k dx n ne⟩⟩
  · exact Fu.bindsN fun kV doc pm an cdv ct us hl => hb kV doc pm an cdv ct us hl

/-! ### a def, all that a call of it wants -/
structure FnX (P : Program) (w : World) (K : PySem.W.Frag) (mg : Str → Option Value) (base : Heap) (k : Nat) (kw : Bool) (x : Str) (ps : List Str) (fm : FM) : Prop where
  ex : ∃ (f : Addr) (fd : FuncData), mg x = some (.ref f) ∧ FnG P w K mg base k f fd ps fm ∧ PySem.W.keepIn K (.ref f) = true ∧ Binds K fd ps [] ∧ (kw = true → KwBinds fd ps) ∧ ∀ (s : Shared) (us : List Value), us.length = ps.length → BindsTo s fd ⟨us, []⟩ (ps.zip us)
theorem fnX_of {P : Program} {w : World} {K : PySem.W.Frag} {mg : Str → Option Value} {base : Heap} {k : Nat} {kw : Bool} {f : Addr} {fd : FuncData} {y qual x : Str} {params : Arguments} {body : List Stmt} {scope : Scope} {kws : List (Str × V)} {N ps : List Str} {m : SM}
    (Fu : FunD K y qual params body scope [] kws f fd) (S : FnScope N ps scope) (g : mg x = some (.ref f))
    (hb : ∀ (kV doc pm : Value) (an : Option Addr) (cdv ct : Value) (us : List Value), us.length = ps.length → bindArgs (PySem.W.fnOf y qual params body scope .none kV doc pm an cdv ct) ⟨us, []⟩ = pure (ps.zip us))
    (hk : kw = true → ∀ (kV doc pm : Value) (an : Option Addr) (cdv ct : Value) (us : List Value), us.length = ps.length → bindArgs (PySem.W.fnOf y qual params body scope .none kV doc pm an cdv ct) ⟨[], ps.zip us⟩ = pure (ps.zip us))
    (hbody : ∀ (cdv : Value) (A : Around) (outer : List Env) (s : Shared) (H : Hp) (E : XK), Room k (A.deeper (envOfC qual scope s.heap.objs.size f cdv)) → A.guards = some [] →
      DSs (cxOf (L2.CX P w) P w K mg base N qual scope f cdv A outer s H E) (fun cls d _ H => E cls d H) body m) :
    FnX P w K mg base (k + 1) kw x ps (bodyM N.length m) := by
  refine ⟨f, fd, g, ?_, Fu.kp, Fu.bindsN hb, fun e s us hl => ?_, fun s us hl => Fu.bindsA hb s us hl⟩
  · obtain ⟨oc, od, dV, kV, doc, pm, an, cdv, ct, osl, rfl, lk, hcd, hD, hK⟩ := Fu.ex
    have hbi : Binds K _ ps [] := Fu.bindsN hb
    constructor
    intro A outer s H args us vs Q E room guards e0 hbd rel hsp
    obtain ⟨hl, mgm, mu, F, as, ha, hm, hf, hw⟩ := hsp
    have hpN : ps.length ≤ N.length := by
      have q := congrArg List.length S.pre
      rw [List.length_take] at q
      omega
    have kin : K.In s.heap := e0.mod.kin.keeps fun b o q => (e0.bs b o q).1
    have nolim : s.heap.NoLimit := e0.mod.nolimit.keeps fun b o q => (e0.bs b o q).1
    refine codeAny_call_function room.depth (kin _ _ lk) rfl S.co S.gen rfl (PySem.W.codeRec_of kin hcd) (hbd _ _ _ _ ?_)
    refine wpAny_newFunctionEnv_cells S.kind (fun ⟨n, v⟩ hy => ?_) fun env he s1 xx => ?_
    · rcases S.par n (List.of_mem_zip hy).1 with q | q
      · exact .inl q
      · exact .inr ⟨q, PySem.W.cellsFrom_some _ _ _ (.inl q)⟩
    subst he
    refine ⟨nolim.keeps xx.toInCall.keep, codeAny_func ?_⟩
    have body := hbody cdv A outer s H E (room.deeper _) guards
    have inv : L2.Inv (cxOf (L2.CX P w) P w K mg base N qual scope f cdv A outer s H E) [] (L2.start N vs) H s1 := inv_start S room.hd e0 hl rel xx
    have rl := rel_start (N := N) (by omega) ha hm hf
    have reading : tS K mg (fun cls d _ H => E cls d H) m { nx := fun _ H' => Q .non H', rt := Q } (L2.start N vs) H := by
      refine ⟨H, F, mgm, _, mu, F, rl, ?_⟩
      unfold bodyM at hw
      cases q : m (as ++ List.replicate (N.length - as.length) Sl.no) mu with
      | nx g mu1 =>
        rw [q] at hw
        exact fun σ' H' F' ex r' => hw .non H' F' r'.fin .non
      | rt d mu1 =>
        rw [q] at hw
        exact fun v H' F' ex fi rp => hw v H' F' fi rp
      | bk g mu1 => rw [q] at hw; exact hw.elim
      | ct g mu1 => rw [q] at hw; exact hw.elim
      | exc c p g mu1 =>
        rw [q] at hw
        exact fun σ' H' F' cls dx ex r' x => hw H' F' cls dx r'.fin x
      | bad => rw [q] at hw; exact hw.elim
    refine wpAny_mono (body.run [] s1 (L2.start N vs) H _ inv reading) (fun fl s2 hs => ?_) fun e s2 hs => hs
    have done : ∀ {σ2 : St} {H2 : Hp} {v : V} {u : Value}, L2.Inv (cxOf (L2.CX P w) P w K mg base N qual scope f cdv A outer s H E) [] σ2 H2 s2 → RelV v u → Q v H2 → CE outer P w H s Q u s2 :=
      fun {σ2 H2 v u} J rv q => ⟨v, H2, J.os, J.bare, J.base, J.hok, rv, q⟩
    cases fl with
    | ret u =>
      obtain ⟨v, σ2, H2, J, rv, q⟩ := hs
      exact done J rv q
    | next =>
      obtain ⟨σ2, H2, J, q⟩ := hs
      exact done (v := V.non) (u := Value.none) J rfl q
    | brk => exact hs.elim fun _ z => z.elim fun _ z => z.2.elim
    | cont => exact hs.elim fun _ z => z.elim fun _ z => z.2.elim
  · obtain ⟨oc, od, dV, kV, doc, pm, an, cdv, ct, osl, rfl, lk, hcd, hD, hK⟩ := Fu.ex
    rcases hD with ⟨_, rfl⟩ | ⟨e, _⟩
    · exact .of_eq (hk e kV doc pm an cdv ct us hl)
    · exact absurd rfl e

/-! ### calls by bundles -/
def NoM (m : BM) (n : Nat) : Prop := ∀ g mu ss mu1, m g mu = .ok ss mu1 → noMug ss = true ∧ ss.length = n
def Ln (m : BM) (n : Nat) : Prop := ∀ g mu ss mu1, m g mu = .ok ss mu1 → ss.length = n
theorem nom_nil : NoM bNil 0 := fun g mu ss mu1 e => by
  injection e with e
  subst e
  exact ⟨rfl, rfl⟩
theorem nom_cons {ma : EM} {mr : BM} {n : Nat} (h : NoM mr n) : NoM (bCons ma mr) (n + 1) := fun g mu ss mu1 e => by
  unfold bCons at e
  cases q : ma g mu with
  | ok d mu2 =>
    rw [q] at e
    have e : ((mr g mu2).bind fun ss mu2 => (.ok (.val d :: ss) mu2 : R (List Sl))) = .ok ss mu1 := e
    cases q2 : mr g mu2 with
    | ok ss2 mu3 =>
      rw [q2] at e
      injection e with e
      subst e
      obtain ⟨h1, h2⟩ := h g mu2 ss2 mu3 q2
      exact ⟨h1, by rw [List.length_cons, h2]⟩
    | exc c p mu3 => rw [q2] at e; cases e
    | bad => rw [q2] at e; cases e
  | exc c p mu2 => rw [q] at e; cases e
  | bad => rw [q] at e; cases e
theorem ln_nil : Ln bNil 0 := fun g mu ss mu1 e => (nom_nil g mu ss mu1 e).2
theorem ln_cons {ma : EM} {mr : BM} {n : Nat} (h : Ln mr n) : Ln (bCons ma mr) (n + 1) := fun g mu ss mu1 e => by
  unfold bCons at e
  cases q : ma g mu with
  | ok d mu2 =>
    rw [q] at e
    have e : ((mr g mu2).bind fun ss mu2 => (.ok (.val d :: ss) mu2 : R (List Sl))) = .ok ss mu1 := e
    cases q2 : mr g mu2 with
    | ok ss2 mu3 =>
      rw [q2] at e
      injection e with e
      subst e
      rw [List.length_cons, h g mu2 ss2 mu3 q2]
    | exc c p mu3 => rw [q2] at e; cases e
    | bad => rw [q2] at e; cases e
  | exc c p mu2 => rw [q] at e; cases e
  | bad => rw [q] at e; cases e
theorem ln_mug {i : Nat} {mr : BM} {n : Nat} (h : Ln mr n) : Ln (bMug i mr) (n + 1) := fun g mu ss mu1 e => by
  unfold bMug at e
  split at e
  · cases q2 : mr g mu with
    | ok ss2 mu3 =>
      rw [q2] at e
      injection e with e
      subst e
      rw [List.length_cons, h g mu ss2 mu3 q2]
    | exc c p mu3 => rw [q2] at e; cases e
    | bad => rw [q2] at e; cases e
  · cases e
section
variable {X : Cx} {W : WX} {j k : Nat} {kw : Bool} {x : Str} {ps : List Str} {fm : FM} {p pos : Pos} {e : Expr} {es : List Expr} {mb : BM}
theorem dx_fn (F : FnX X.prog X.w X.K X.mg X.base j kw x ps fm) (hr : Room k X.A) (hjk : j ≤ k) (gd : X.A.guards = some []) (tk : Takes X W) (ha : DB X W (e :: es) mb) (hnm : NoM mb ps.length) (hg : Gl X x) (hdb : (x == ("__debug__" : Str)) = false)
    (he : starEach (e :: es) X.env = (false, eval e X.env) :: starEach es X.env) (hpl : (backTo pos (starEach es X.env)).any (·.1) = false) (hn : (e :: es).length = ps.length) : DE X W (.Call (.Name x p) (e :: es) [] pos) (eFn fm mb) := by
  obtain ⟨f, fd, h1, h2, h3, h4, _, _⟩ := F.ex
  exact de_fn h2 (hr.mono hjk) gd hg h1 h3 h4 tk ha hn hnm hdb he hpl
theorem dx_fnM (F : FnX X.prog X.w X.K X.mg X.base j kw x ps fm) (hr : Room k X.A) (hjk : j ≤ k) (gd : X.A.guards = some []) (tk : Takes X W) (ha : DB X W (e :: es) mb) (hnm : Ln mb ps.length) (hg : Gl X x) (hdb : (x == ("__debug__" : Str)) = false)
    (he : starEach (e :: es) X.env = (false, eval e X.env) :: starEach es X.env) (hpl : (backTo pos (starEach es X.env)).any (·.1) = false) : DE X W (.Call (.Name x p) (e :: es) [] pos) (eFnM fm mb) := by
  obtain ⟨f, fd, h1, h2, h3, h4, _, _⟩ := F.ex
  exact de_fnM h2 (hr.mono hjk) gd hg h1 h3 h4 tk ha hnm hdb he hpl
theorem dx_fnK {kws : List Keyword} (F : FnX X.prog X.w X.K X.mg X.base j true x ps fm) (hr : Room k X.A) (hjk : j ≤ k) (gd : X.A.guards = some []) (tk : Takes X W) (ha : DK X W kws mb) (hnm : NoM mb ps.length) (hg : Gl X x) (hdb : (x == ("__debug__" : Str)) = false)
    (hall : (backToKw pos (keywordEach kws X.env)).all (·.1.isSome) = true) (hks : (backToKw pos (keywordEach kws X.env)).filterMap (·.1) = ps) (hpl : ((backTo pos (starEach [] X.env)).any (·.1) || (backToKw pos (keywordEach kws X.env)).any (·.1.isNone)) = false) :
    DE X W (.Call (.Name x p) [] kws pos) (eFn fm mb) := by
  obtain ⟨f, fd, h1, h2, h3, h4, h5, _⟩ := F.ex
  exact de_fnK h2 (hr.mono hjk) gd hg h1 h3 (h5 rfl) tk ha hnm hall hks hdb hpl
theorem dx_fnNew {j2 : Nat} {kw2 : Bool} {y : Str} {ps2 : List Str} {fm2 : FM} {p2 pos2 : Pos} (F : FnX X.prog X.w X.K X.mg X.base j kw x ps fm) (G : FnX X.prog X.w X.K X.mg X.base j2 kw2 y ps2 fm2) (hr : Room k X.A) (hjk : j ≤ k) (hjk2 : j2 ≤ k) (gd : X.A.guards = some []) (tk : Takes X W0)
    (ha : DB X W0 (e :: es) mb) (hnm : Ln mb ps2.length) (hp1 : ps.length = 1) (hg : Gl X x) (hg2 : Gl X y) (hdb : (x == ("__debug__" : Str)) = false) (hdb2 : (y == ("__debug__" : Str)) = false)
    (he : starEach (e :: es) X.env = (false, eval e X.env) :: starEach es X.env) (hpl : (backTo pos2 (starEach es X.env)).any (·.1) = false) :
    DE X W0 (.Call (.Name x p) [.Call (.Name y p2) (e :: es) [] pos2] [] pos) (eFnNew fm fm2 mb) := by
  obtain ⟨f, fd, h1, h2, h3, h4, _, _⟩ := F.ex
  obtain ⟨f', fd', h1', h2', h3', h4', _, _⟩ := G.ex
  exact de_fnNew h2 (hr.mono hjk) hg h1 h3 h4 hp1 h2' (hr.mono hjk2) hg2 h1' h3' h4' gd tk ha hnm hdb hdb2 he hpl
end

/-! ### the law's end -/
theorem fin_cx {P : Program} {w : World} {outer : List Env} {H : Hp} {s s' : Shared} {e : Value} (z : L2.CX P w outer H s (fun _ _ _ => False) e s') : False := by
  obtain ⟨_, _, _, _, _, _, _, _, _, _, _, _, y⟩ := z
  exact y.elim
theorem rp_int {K : PySem.W.Frag} {H : Hp} {F : Fz} : ∀ ms : List Int, RpA K H F (ms.map V.int) (ms.map PyData.int)
  | [] => .nil
  | m :: ms => .cons (.int m) (rp_int ms)
/-- the law's def called with the script -/
theorem callW {P : Program} {w : World} {K : PySem.W.Frag} {mg mb : Str → Option Value} {k : Nat} {kw : Bool} {fa c : Addr} {x y : Str} {fm : FM} {sh : Shared} {us : List Value} {ms : List Int}
    (hKs : K.In sh.heap) (hn1 : sh.heap.Ns mainGlobals mg) (hn2 : sh.heap.Ns builtinsNs mb) (hn3 : ∀ x : Str, x ≠ "__name__" → mb x = bootBuiltins x) (hnl : sh.heap.NoLimit) (hge : sh.gens = #[])
    (hc : sh.heap.get? c = some { cls := .type "list", data := .seq us.toArray }) (hus : IntsAre us ms) (hms : ms.length ≤ sizeLine) (hro : Room k callerA) (hgd : callerA.guards = some []) (hmg : mg y = some (.ref fa))
    (F : ∀ base : Heap, K.In base → base.Ns mainGlobals mg → FnX P w K mg base k kw y [x] fm)
    (hlaw : ∃ mu, fm [.val (.dict [(.none, .list (ms.map PyData.int))])] [] = .ok (.bool true) mu) :
    codeAny (model P w) callerA (.call (.ref fa) ⟨[.ref c], []⟩) (fun r s' => r = .ok (.ret (.bool true)) ∧ OldK sh.heap s'.heap ∧ s'.os = sh.os ∧ AllBare s'.gens) sh := by
  have hvv := vals_ints hus
  have hln := hus.length
  have go : ∀ G : Hp, Only G → SqL K G c (ms.map V.int) → HOk P w G sh.heap → (∀ b, G b ≠ none → b = c) → (G c ≠ none → K.lookup c = none) →
      codeAny (model P w) callerA (.call (.ref fa) ⟨[.ref c], []⟩) (fun r s' => r = .ok (.ret (.bool true)) ∧ OldK sh.heap s'.heap ∧ s'.os = sh.os ∧ AllBare s'.gens) sh := by
    intro G hO hS okG one notK
    have stays : ∀ {b : Addr} {o : Obj}, sh.heap.get? b = some o → G b = none → (hidT sh.heap G).get? b = some o := fun e n => hidT_get e n
    have dicts : ∀ {b : Addr} {o : Obj} {es : Array DictEntry} {ep : Nat}, sh.heap.get? b = some o → o.data = .dict es ep → G b = none := fun {b o es ep} e d => by
      by_cases q : G b = none
      · exact q
      · have eb := one b q
        rw [eb, hc] at e
        cases e
        have d' : Data.seq us.toArray _ = Data.dict es ep := d
        cases d'
    have spaces : ∀ {b : Addr} {m : Str → Option Value}, sh.heap.Ns b m → (hidT sh.heap G).Ns b m := fun {b m} ⟨o, es, ep, e, d, r⟩ => ⟨o, es, ep, stays e (dicts e d), d, r⟩
    have inB : K.In (hidT sh.heap G) := fun b o e => stays (hKs b o e) (by
      by_cases q : G b = none
      · exact q
      · have eb := one b q
        have z := notK (by rw [← eb]; exact q)
        rw [eb, z] at e
        cases e)
    have md : Mod K mg (hidT sh.heap G) := ⟨inB, spaces hn1, ⟨mb, spaces hn2, hn3⟩, let ⟨mc, h1, h2⟩ := hnl; ⟨mc, spaces h1, h2⟩⟩
    have env0 : Env0 P w K mg (hidT sh.heap G) callerA [] sh G := ⟨rfl, md, fun b o e => of_hidT e, Nat.le_of_eq (hidT_size _ _), trivial, fun b hb => absurd hb List.not_mem_nil, okG, .of_eq hge⟩
    obtain ⟨f', fd, e1, hF, _, _, _, hbi⟩ := (F _ inB (spaces hn1)).ex
    rw [hmg] at e1
    cases e1
    obtain ⟨mu, hl⟩ := hlaw
    have hrp : ∃ F0 : Fz, Rp K G F0 (.ref c) (.dict [(.none, .list (ms.map PyData.int))]) ∧ ∀ a, F0 a → ∃ o, G a = some o := by
      rcases hS with hS | hS
      · rcases hO c with z | ⟨ob, xs, z⟩
        · rcases hS with q | ⟨o, q⟩
          · rw [z] at q; cases q
          · rw [z] at q; cases q
        · have ez : xs = ms.map V.int := by
            rcases hS with q | ⟨o, q⟩
            · rw [z] at q; cases q
            · rw [z] at q; cases q; rfl
          subst ez
          exact ⟨fun a => a = c, .scr rfl z (rp_int ms), fun a (e : a = c) => ⟨_, e ▸ z⟩⟩
      · exact ⟨fun _ => False, .scrK hS (rp_int ms), fun a e => e.elim⟩
    obtain ⟨F0, hrp, htr⟩ := hrp
    refine codeAny_mono (hF.run callerA [] sh G ⟨[.ref c], []⟩ [.ref c] [.ref c] (fun v _ => v = .bl true) (fun _ _ _ => False) hro hgd env0 (hbi sh [.ref c] rfl) (.cons rfl .nil) ⟨rfl, none, [], F0, [.val (.dict [(.none, .list (ms.map PyData.int))])], .cons hrp .nil, fun a e => (by cases e), htr, ?_⟩) fun r s' h => ?_
    · rw [hl]
      intro v H' F' fi rp
      cases rp
      rfl
    · cases r with
      | error e => exact (fin_cx h).elim
      | ok fl =>
        cases fl with
        | next => exact False.elim h
        | brk => exact False.elim h
        | cont => exact False.elim h
        | ret u =>
          obtain ⟨v, G', os, bare, un, okG', r', q⟩ := h
          have q' : v = .bl true := q
          subst q'
          obtain rfl : u = Value.bool true := r'
          refine ⟨rfl, OldK.of_keep fun b o e => ?_, os, bare⟩
          by_cases q : G b = none
          · exact un.keep b o e q List.not_mem_nil (fun z => absurd z List.not_mem_nil)
          · rcases hO b with z | ⟨ob, xs, z⟩
            · exact absurd z q
            · have z2 := un.frzs b ob _ z
              obtain ⟨e1, _⟩ := okG b _ z
              obtain ⟨e2, _⟩ := okG' b _ z2
              rw [e] at e1
              cases e1
              exact e2
  cases hk : K.lookup c with
  | some o =>
    have e := hKs c o hk
    rw [hc] at e
    cases e
    exact go (fun _ => none) (fun _ => .inl rfl) (.inr ⟨_, us.toArray, _, hk, rfl, rfl, rfl, by rw [List.size_toArray, hln]; exact hms, by simpa using hvv⟩) (fun b u z => by cases (show (none : Option HO) = some u from z)) (fun b z => absurd rfl z) fun z => absurd rfl z
  | none =>
    refine go (fun b => if b = c then some (.frz { cls := .type "list", data := .seq us.toArray } (.lst (ms.map V.int))) else none) (fun b => ?_) (.inl (.inr ⟨_, if_pos rfl⟩)) (fun b u z => ?_) (fun b z => ?_) fun _ => hk
    · by_cases hb : b = c
      · exact .inr ⟨_, _, if_pos hb⟩
      · exact .inl (if_neg hb)
    · by_cases hb : b = c
      · cases (if_pos hb).symm.trans z
        subst hb
        exact ⟨hc, by rw [List.length_map]; exact hms, us, _, hvv, hc⟩
      · cases (if_neg hb).symm.trans z
    · by_cases hb : b = c
      · exact hb
      · exact absurd (if_neg hb) z
theorem walkW {l : PySem.W.OpenLaw} {n k : Nat} {kw : Bool} {q : Program} {loose : List Str} {XP : (Str → Option Value) → Heap → Prop} {YP : World → Heap → Prop} {d : DefRec} {x : Str} {fm : FM}
    (hn : l.most = some n) (hn2 : n ≤ sizeLine) (hdf : d.params.defaults = []) (hr : Room k callerA) (hgd : callerA.guards = some [])
    (F : ∀ (w : World) (mg : Str → Option Value) (fa : Addr) (h : Heap), YP w h → h.Ns mainGlobals mg → mg d.name = some (.ref fa) → ∃ (K : PySem.W.Frag), K.In h ∧ ∀ base : Heap, K.In base → base.Ns mainGlobals mg → FnX l.prog w K mg base k kw d.name [x] fm)
    (hlaw : ∀ ns : List Int, ns.length ≤ n → ∃ mu, fm [.val (.dict [(.none, .list (ns.map PyData.int))])] [] = .ok (.bool true) mu) :
    PySem.W.WalkO q loose XP YP l.row.toRowW d [] (fun f vs => PySem.call f vs) := by
  refine Att.attach_call hn hdf fun w s₀ s₁ mg mb fa o pm cd doc a vs ns G Y ho hd hcd hmg hobj hints hlen hg => ?_
  obtain ⟨K, KX, hF⟩ := F w mg fa _ Y G.T.g hmg
  exact callW KX G.T.g G.T.b G.T.builtins G.T.nolimit hg hobj hints (Nat.le_trans hlen hn2) hr hgd hmg hF (hlaw ns hlen)
theorem callerA_guards : callerA.guards = some [] := by
  first
    | rfl
    | decide
end Wf
/-! W16: the rules as a printed derivation names them. -/
namespace Wf
open PySem L2
open He (ga ma)

/-! ### blocks -/
def blkB (N : List Str) (sc scope : Scope) (own : List (Str × Nat)) : Bool :=
  decide (scope.kind = .function) && (scope.names.all (fun y => decide (scope.names.lookup y.1 = some y.2)) && (own.all (fun p => decide (N[p.2]? = some p.1)) &&
  (scope.names.all (fun y => !decide (y.2 = .free) || (decide (sc.names.lookup y.1 = some .cell) || decide (sc.names.lookup y.1 = some .free))) &&
   scope.names.all (fun y => !(decide (y.2 = .local) || decide (y.2 = .cell)) || (decide (y.1 ∈ own.map (·.1)) || !decide (y.1 ∈ N))))))
theorem blk_ok {N : List Str} {sc scope : Scope} {own : List (Str × Nat)} (h : blkB N sc scope own = true) : BlkOk N sc scope own := by
  unfold blkB at h
  simp only [Bool.and_eq_true, List.all_eq_true, Bool.or_eq_true, Bool.not_eq_true', decide_eq_true_eq, decide_eq_false_iff_not] at h
  obtain ⟨h1, h2, h3, h4, h5⟩ := h
  refine ⟨h1, h2, h3, fun y hy e => ?_, fun y hy e => ?_⟩
  · rcases h4 y hy with z | z
    · exact absurd e z
    · exact z
  · rcases h5 y hy with z | z
    · rcases e with e | e <;> simp [e] at z
    · exact z
def scopeB (N P : List Str) (sc : Scope) : Bool :=
  decide (sc.kind = .function) && (!sc.isCoroutine && (!sc.isGenerator && (decide N.Nodup && (decide (N.take P.length = P) && (P.all (fun x => decide (sc.names.lookup x = some .local) || decide (sc.names.lookup x = some .cell)) && sc.names.all fun y => !decide (y.2 = .free))))))
theorem scope_ok {N P : List Str} {sc : Scope} (h : scopeB N P sc = true) : FnScope N P sc := by
  unfold scopeB at h
  simp only [Bool.and_eq_true, List.all_eq_true, Bool.or_eq_true, Bool.not_eq_true', decide_eq_true_eq, decide_eq_false_iff_not] at h
  obtain ⟨h1, h2, h3, h4, h5, h6, h7⟩ := h
  exact ⟨h1, h2, h3, h4, h5, h6, h7⟩

section
variable {X : Cx} {W : WX} {x y : Str} {p p2 pos pos2 : Pos} {e e2 a b : Expr} {es : List Expr} {m ma mb : EM} {am : AM}

/-! ### built-ins -/
theorem bx_len (hm : X.mg "len" = none) (ha : DA X W (e :: es) am) (hg : Gl X "len") (he : starEach (e :: es) X.env = (false, eval e X.env) :: starEach es X.env) (hpl : (backTo pos (starEach es X.env)).any (·.1) = false) : DE X W (.Call (.Name "len" p) (e :: es) [] pos) (eCall fLen am) :=
  de_callB call_len cl_len hg hm (by decide +kernel) ha (by decide) (by decide) he hpl
theorem bx_abs (hm : X.mg "abs" = none) (ha : DA X W (e :: es) am) (hg : Gl X "abs") (he : starEach (e :: es) X.env = (false, eval e X.env) :: starEach es X.env) (hpl : (backTo pos (starEach es X.env)).any (·.1) = false) : DE X W (.Call (.Name "abs" p) (e :: es) [] pos) (eCall fAbs am) :=
  de_callB call_abs cl_abs hg hm (by decide +kernel) ha (by decide) (by decide) he hpl
theorem bx_divmod (hm : X.mg "divmod" = none) (ha : DA X W (e :: es) am) (hg : Gl X "divmod") (he : starEach (e :: es) X.env = (false, eval e X.env) :: starEach es X.env) (hpl : (backTo pos (starEach es X.env)).any (·.1) = false) : DE X W (.Call (.Name "divmod" p) (e :: es) [] pos) (eCall fDivmod am) :=
  de_callB call_divmod cl_divmod hg hm (by decide +kernel) ha (by decide) (by decide) he hpl
theorem bx_sorted (hm : X.mg "sorted" = none) (ha : DA X W (e :: es) am) (hg : Gl X "sorted") (he : starEach (e :: es) X.env = (false, eval e X.env) :: starEach es X.env) (hpl : (backTo pos (starEach es X.env)).any (·.1) = false) : DE X W (.Call (.Name "sorted" p) (e :: es) [] pos) (eCall fSort am) :=
  de_callB cr_sortA cl_sort hg hm (by decide +kernel) ha (by decide) (by decide) he hpl
theorem bx_sum (hc : X.calm = true) (hm : X.mg "sum" = none) (ha : DA X W (e :: es) am) (hg : Gl X "sum") (he : starEach (e :: es) X.env = (false, eval e X.env) :: starEach es X.env) (hpl : (backTo pos (starEach es X.env)).any (·.1) = false) : DE X W (.Call (.Name "sum" p) (e :: es) [] pos) (eCall fSum am) :=
  de_callB (cr_sum hc) cl_sum hg hm (by decide +kernel) ha (by decide) (by decide) he hpl
theorem bx_all (hc : X.calm = true) (hm : X.mg "all" = none) (ha : DA X W (e :: es) am) (hg : Gl X "all") (he : starEach (e :: es) X.env = (false, eval e X.env) :: starEach es X.env) (hpl : (backTo pos (starEach es X.env)).any (·.1) = false) : DE X W (.Call (.Name "all" p) (e :: es) [] pos) (eCall fAll am) :=
  de_callB (cr_all hc) cl_all hg hm (by decide +kernel) ha (by decide) (by decide) he hpl
theorem bx_any (hc : X.calm = true) (hm : X.mg "any" = none) (ha : DA X W (e :: es) am) (hg : Gl X "any") (he : starEach (e :: es) X.env = (false, eval e X.env) :: starEach es X.env) (hpl : (backTo pos (starEach es X.env)).any (·.1) = false) : DE X W (.Call (.Name "any" p) (e :: es) [] pos) (eCall fAny am) :=
  de_callB (cr_any hc) cl_any hg hm (by decide +kernel) ha (by decide) (by decide) he hpl
theorem bx_max (hc : X.calm = true) (hm : X.mg "max" = none) (ha : DA X W (e :: es) am) (hg : Gl X "max") (he : starEach (e :: es) X.env = (false, eval e X.env) :: starEach es X.env) (hpl : (backTo pos (starEach es X.env)).any (·.1) = false) : DE X W (.Call (.Name "max" p) (e :: es) [] pos) (eCall fMax am) :=
  de_callB (cr_maxA hc) cl_max hg hm (by decide +kernel) ha (by decide) (by decide) he hpl
theorem bx_min (hc : X.calm = true) (hm : X.mg "min" = none) (ha : DA X W (e :: es) am) (hg : Gl X "min") (he : starEach (e :: es) X.env = (false, eval e X.env) :: starEach es X.env) (hpl : (backTo pos (starEach es X.env)).any (·.1) = false) : DE X W (.Call (.Name "min" p) (e :: es) [] pos) (eCall fMin am) :=
  de_callB (cr_minA hc) cl_min hg hm (by decide +kernel) ha (by decide) (by decide) he hpl
theorem bx_repr (gd : X.A.guards = some []) (hu : X.A.units + 64 < cLine) (hm : X.mg "repr" = none) (ha : DA X W (e :: es) am) (hg : Gl X "repr") (he : starEach (e :: es) X.env = (false, eval e X.env) :: starEach es X.env) (hpl : (backTo pos (starEach es X.env)).any (·.1) = false) : DE X W (.Call (.Name "repr" p) (e :: es) [] pos) (eCall fRepr am) :=
  de_callB (cr_repr gd hu) cl_repr hg hm (by decide +kernel) ha (by decide) (by decide) he hpl
theorem bx_int (hm : X.mg "int" = none) (ha : DA X W (e :: es) am) (hg : Gl X "int") (he : starEach (e :: es) X.env = (false, eval e X.env) :: starEach es X.env) (hpl : (backTo pos (starEach es X.env)).any (·.1) = false) : DE X W (.Call (.Name "int" p) (e :: es) [] pos) (eCall fInt am) :=
  de_callTy call_int1 cl_int hg hm (by decide +kernel) ha (by decide) (by decide) he hpl
theorem bx_tuple (hm : X.mg "tuple" = none) (ha : DA X W (e :: es) am) (hg : Gl X "tuple") (he : starEach (e :: es) X.env = (false, eval e X.env) :: starEach es X.env) (hpl : (backTo pos (starEach es X.env)).any (·.1) = false) : DE X W (.Call (.Name "tuple" p) (e :: es) [] pos) (eCall fTuple am) :=
  de_callTy call_tuple_of cl_tuple hg hm (by decide +kernel) ha (by decide) (by decide) he hpl
theorem bx_list (hm : X.mg "list" = none) (ha : DA X W (e :: es) am) (hg : Gl X "list") (he : starEach (e :: es) X.env = (false, eval e X.env) :: starEach es X.env) (hpl : (backTo pos (starEach es X.env)).any (·.1) = false) : DE X W (.Call (.Name "list" p) (e :: es) [] pos) (eCall fList am) :=
  de_callTy call_list_of cl_list hg hm (by decide +kernel) ha (by decide) (by decide) he hpl
theorem bx_isi {T : String} (hm : X.mg "isinstance" = none) (hm2 : X.mg y = none) (hv2 : bootBuiltins y = some (.type T)) (ha : DE X W e m) (hg : Gl X "isinstance") (hg2 : Gl X y) (hn2 : y ≠ "__name__") (hd2 : (y == ("__debug__" : Str)) = false)
    (hs : starEach [e, .Name y p2] X.env = [(false, eval e X.env), (false, eval (.Name y p2) X.env)]) : DE X W (.Call (.Name "isinstance" p) [e, .Name y p2] [] pos) (eIsi T m) := de_isi ha hg hm hg2 hm2 hv2 hn2 hd2 hs

/-! ### operators -/
theorem xAdd (ha : DE X W a ma) (hb : DE X W b mb) : DE X W (.BinOp a .Add b pos) (eOp2 fAdd ma mb) := de_op2 (fun h1 h2 => pe_op op_addA h1 h2) o2_add ha hb
theorem xSub (ha : DE X W a ma) (hb : DE X W b mb) : DE X W (.BinOp a .Sub b pos) (eOp2 fSub ma mb) := de_op2 (fun h1 h2 => pe_op op_sub h1 h2) o2_sub ha hb
theorem xMul (ha : DE X W a ma) (hb : DE X W b mb) : DE X W (.BinOp a .Mult b pos) (eOp2 fMul ma mb) := de_op2 (fun h1 h2 => pe_op op_mulA h1 h2) o2_mul ha hb
theorem xDiv (ha : DE X W a ma) (hb : DE X W b mb) : DE X W (.BinOp a .FloorDiv b pos) (eOp2 fDiv ma mb) := de_op2 (fun h1 h2 => pe_op op_fdivA h1 h2) o2_div ha hb
theorem xMod (ha : DE X W a ma) (hb : DE X W b mb) : DE X W (.BinOp a .Mod b pos) (eOp2 fMod ma mb) := de_op2 (fun h1 h2 => pe_op op_modN h1 h2) o2_mod ha hb
theorem xPow (ha : DE X W a ma) (hb : DE X W b mb) : DE X W (.BinOp a .Pow b pos) (eOp2 fPow ma mb) := de_op2 (fun h1 h2 => pe_op op_pow h1 h2) o2_pow ha hb
theorem xNeg (ha : DE X W a ma) : DE X W (.UnaryOp .USub a pos) (eOp1 fNeg ma) := de_op1 (fun h => pe_un un_neg h) o1_neg ha
theorem xLt (ha : DE X W a ma) (hb : DE X W b mb) : DE X W (.Compare a [.Lt] [b] pos) (eOp2 fLt ma mb) := de_op2 (fun h1 h2 => pe_cmpR op_lt h1 h2 (nomark _)) o2_lt ha hb
theorem xLe (ha : DE X W a ma) (hb : DE X W b mb) : DE X W (.Compare a [.LtE] [b] pos) (eOp2 fLe ma mb) := de_op2 (fun h1 h2 => pe_cmpR op_le h1 h2 (nomark _)) o2_le ha hb
theorem xGt (ha : DE X W a ma) (hb : DE X W b mb) : DE X W (.Compare a [.Gt] [b] pos) (eOp2 fGt ma mb) := de_op2 (fun h1 h2 => pe_cmpR op_gt h1 h2 (nomark _)) o2_gt ha hb
theorem xGe (ha : DE X W a ma) (hb : DE X W b mb) : DE X W (.Compare a [.GtE] [b] pos) (eOp2 fGe ma mb) := de_op2 (fun h1 h2 => pe_cmpR op_ge h1 h2 (nomark _)) o2_ge ha hb
theorem xEq (hu : X.A.units + 64 < cLine) (ha : DE X W a ma) (hb : DE X W b mb) : DE X W (.Compare a [.Eq] [b] pos) (eOp2 fEq ma mb) := de_op2 (fun h1 h2 => pe_cmpR (op_eqL hu) h1 h2 (nomark _)) o2_eq ha hb
theorem xNe (hu : X.A.units + 64 < cLine) (ha : DE X W a ma) (hb : DE X W b mb) : DE X W (.Compare a [.NotEq] [b] pos) (eOp2 fNe ma mb) := de_op2 (fun h1 h2 => pe_cmpR (op_neL hu) h1 h2 (nomark _)) o2_ne ha hb
theorem xIs (ha : DE X W a ma) (hb : DE X W b mb) : DE X W (.Compare a [.Is] [b] pos) (eOp2 fIs ma mb) := de_op2 (fun h1 h2 => pe_cmpR op_isA h1 h2 (nomark _)) o2_is ha hb
theorem xIsN (ha : DE X W a ma) (hb : DE X W b mb) : DE X W (.Compare a [.IsNot] [b] pos) (eOp2 fIsN ma mb) := de_op2 (fun h1 h2 => pe_cmpR op_isNA h1 h2 (nomark _)) o2_isN ha hb
theorem xIn (hu : X.A.units + 65 < cLine) (hm : behindInMarks .In b = false) (ha : DE X W a ma) (hb : DE X W b mb) : DE X W (.Compare a [.In] [b] pos) (eOp2 (fIn false) ma mb) := de_op2 (fun h1 h2 => pe_cmpR (op_inA hu) h1 h2 hm) o2_in ha hb
theorem xNotIn (hu : X.A.units + 65 < cLine) (hm : behindInMarks .NotIn b = false) (ha : DE X W a ma) (hb : DE X W b mb) : DE X W (.Compare a [.NotIn] [b] pos) (eOp2 (fIn true) ma mb) := de_op2 (fun h1 h2 => pe_cmpR (op_notInA hu) h1 h2 hm) o2_in ha hb
theorem tLt (ha : DE X W a ma) (hb : DE X W b mb) : DT X W (.Compare a [.Lt] [b] pos) (mT (eOp2 fLt ma mb)) := dt_cmp op_lt o2_lt ha hb (nomark _)
theorem tLe (ha : DE X W a ma) (hb : DE X W b mb) : DT X W (.Compare a [.LtE] [b] pos) (mT (eOp2 fLe ma mb)) := dt_cmp op_le o2_le ha hb (nomark _)
theorem tGt (ha : DE X W a ma) (hb : DE X W b mb) : DT X W (.Compare a [.Gt] [b] pos) (mT (eOp2 fGt ma mb)) := dt_cmp op_gt o2_gt ha hb (nomark _)
theorem tGe (ha : DE X W a ma) (hb : DE X W b mb) : DT X W (.Compare a [.GtE] [b] pos) (mT (eOp2 fGe ma mb)) := dt_cmp op_ge o2_ge ha hb (nomark _)
theorem tEq (hu : X.A.units + 64 < cLine) (ha : DE X W a ma) (hb : DE X W b mb) : DT X W (.Compare a [.Eq] [b] pos) (mT (eOp2 fEq ma mb)) := dt_cmp (op_eqL hu) o2_eq ha hb (nomark _)
theorem tNe (hu : X.A.units + 64 < cLine) (ha : DE X W a ma) (hb : DE X W b mb) : DT X W (.Compare a [.NotEq] [b] pos) (mT (eOp2 fNe ma mb)) := dt_cmp (op_neL hu) o2_ne ha hb (nomark _)
theorem tIs (ha : DE X W a ma) (hb : DE X W b mb) : DT X W (.Compare a [.Is] [b] pos) (mT (eOp2 fIs ma mb)) := dt_cmp op_isA o2_is ha hb (nomark _)
theorem tIsN (ha : DE X W a ma) (hb : DE X W b mb) : DT X W (.Compare a [.IsNot] [b] pos) (mT (eOp2 fIsN ma mb)) := dt_cmp op_isNA o2_isN ha hb (nomark _)
theorem tIn (hu : X.A.units + 65 < cLine) (hm : behindInMarks .In b = false) (ha : DE X W a ma) (hb : DE X W b mb) : DT X W (.Compare a [.In] [b] pos) (mT (eOp2 (fIn false) ma mb)) := dt_cmp (op_inA hu) o2_in ha hb hm
theorem tNotIn (hu : X.A.units + 65 < cLine) (hm : behindInMarks .NotIn b = false) (ha : DE X W a ma) (hb : DE X W b mb) : DT X W (.Compare a [.NotIn] [b] pos) (mT (eOp2 (fIn true) ma mb)) := dt_cmp (op_notInA hu) o2_in ha hb hm
theorem room65 {k : Nat} {A : Around} (r : Room k A) : A.units + 65 < cLine := by
  have := r.un
  omega
end

/-! ### exceptions by names -/
section
variable {X : Cx} {W : WX} {c f x n : Str} {k : Nat} {e : Expr} {m : EM} {p pos pos2 pos' np : Pos}
theorem rx_raise (E : ExX X.prog X.w X.K X.mg X.base c f) (hr : Room k X.A) (h2 : 2 ≤ k) (tk : Takes X W) (ha : DE X W e m) (hc : X.calm = true) (hg : Gl X c) (hdb : (c == ("__debug__" : Str)) = false) (he : starEach [e] X.env = [(false, eval e X.env)]) :
    DS X W (.Raise (some (.Call (.Name c p) [e] [] pos)) none pos2) (sRaise c f m) := by
  obtain ⟨C, fI, fd, E, _⟩ := E.ex
  exact ds_raise hc tk E (hr.mono h2) hg ha hdb he
/-- which classes the clause 'except x' takes -/
def MtOk (K : PySem.W.Frag) (mg : Str → Option Value) (x : Str) (l : List (Str × Bool)) : Prop := ∀ q ∈ l, mg q.1 = some (.ref (ga K q.1)) ∧ PySem.W.exmOne K (.ref (ga K q.1)) (.ref (ga K x)) = some q.2
theorem mt_nil {K : PySem.W.Frag} {mg : Str → Option Value} : MtOk K mg x [] := fun q h => absurd h List.not_mem_nil
theorem mt_cons {K : PySem.W.Frag} {mg : Str → Option Value} {b : Bool} {l : List (Str × Bool)} (h1 : mg c = some (.ref (ga K c))) (h2 : PySem.W.exmOne K (.ref (ga K c)) (.ref (ga K x)) = some b) (h : MtOk K mg x l) : MtOk K mg x ((c, b) :: l) := fun q hq => by
  rcases List.mem_cons.mp hq with e | hq
  · rw [e]; exact ⟨h1, h2⟩
  · exact h q hq
theorem mem_lookup : ∀ {l : List (Str × Bool)} {c : Str} {b : Bool}, l.lookup c = some b → (c, b) ∈ l
  | [], _, _, h => by cases h
  | (a, d) :: l, c, b, h => by
    rw [List.lookup_cons] at h
    by_cases e : c = a
    · subst e
      simp at h
      rw [h]; exact List.mem_cons_self
    · have e2 : (c == a) = false := by simpa using e
      rw [e2] at h
      exact List.mem_cons_of_mem _ (mem_lookup h)
theorem lk_only {l : List (Str × Bool)} {y : Str} (h : l.all (fun q => !q.2 || decide (q.1 = y)) = true) (hlk : l.lookup c = some true) : c = y := by
  have z := List.all_eq_true.mp h _ (mem_lookup hlk)
  simpa using z
theorem tx_try {i : Nat} {body suite : List Stmt} {b0 : Stmt} {mb : SM} {ms : Str → Addr → Option Addr → SM} {l : List (Str × Bool)} (hmg : X.mg x = some (.ref (ga X.K x))) (hl : MtOk X.K X.mg x l) (tk : Takes X W) (hpl : Placed i ms)
    (hb : ∀ (W' : WX) (pn : List (Addr × Obj)) (xe : Value → Shared → Prop), Takes (X.tr pn xe) W' → PassesOwn (model X.prog X.w) X.A X.env xe → DSs (X.tr pn xe) W' body mb)
    (hsu : ∀ (a : Addr) (oe : Obj) (d : Option Addr) (pn : List (Addr × Obj)) (c : Str) (C : Addr), Zc (.ref C) d oe → (∃ vs, oe.data = .fields vs) → X.mg c = some (.ref C) → l.lookup c = some true → DSs (X.suite a ((a, oe) :: pn)) W0 (b0 :: suite) (ms c a d))
    (hs : X.stack = X.env :: X.outer) (hf : X.env.frame = some X.env.locals) (hN : X.N.Nodup) (hi : X.N[i]? = some n) (hln : X.env.kindOf n = some .local) (hg : Gl X x) (hdb : (x == ("__debug__" : Str)) = false) :
    DS X W (.Try body [.ExceptHandler (some (.Name x np)) (some n) (b0 :: suite) pos'] [] [] pos) (sTryAs i (fun c => l.lookup c) mb ms) :=
  ds_tryAs hs hf hN hi hln ⟨hg, hdb, .inl hmg⟩ tk (fun c C b h1 h2 => by
    obtain ⟨h3, h4⟩ := hl _ (mem_lookup h2)
    rw [h1] at h3
    cases h3
    exact h4) hpl hb hsu
/-- the caught exception's field -/
theorem ex_field {a C : Addr} {oe : Obj} {d : Option Addr} {pn : List (Addr × Obj)} {i : Nat} {p2 : Pos} (E : ExX X.prog X.w X.K X.mg X.base c f) (hC : X.mg c = some (.ref C)) (hz : Zc (.ref C) d oe) (hfl : ∃ vs, oe.data = .fields vs)
    (hN : X.N[i]? = some x) (hv : Vis X.env.scope x) (hd : (x == ("__debug__" : Str)) = false) (hcd : (x == ("__classdict__" : Str)) = false) (hb : attributeBase (.Name x p2) f X.env (eval (.Name x p2) X.env) = eval (.Name x p2) X.env) :
    DE (X.suite a ((a, oe) :: pn)) W0 (.Attribute (.Name x p2) f pos) (eExn i f a d) := by
  obtain ⟨C', fI, fd, E, T⟩ := E.ex
  have e := E.g
  rw [hC] at e
  cases e
  exact de_exn T E.no hz hfl hN hv hd hcd hb
end

/-! ### a suite's reading does not hang on where the exception stands -/
def Plc (i : Nat) (m : Addr → Option Addr → EM) : Prop := ∀ (c : Str) (p : Option (Str × D)) (a : Addr) (dx : Option Addr) (g : Gm) (mu : Mu), m 0 none (g.set i (.exn c p 0 none)) mu = m a dx (g.set i (.exn c p a dx)) mu
def PlcA (i : Nat) (m : Addr → Option Addr → AM) : Prop := ∀ (c : Str) (p : Option (Str × D)) (a : Addr) (dx : Option Addr) (g : Gm) (mu : Mu), m 0 none (g.set i (.exn c p 0 none)) mu = m a dx (g.set i (.exn c p a dx)) mu
section
variable {i : Nat} {m : Addr → Option Addr → EM} {am : Addr → Option Addr → AM}
theorem plc_c {d : D} : Plc i fun _ _ => eC d := fun _ _ _ _ _ _ => rfl
theorem plc_exn {f : Str} : Plc i fun a dx => eExn i f a dx := fun c p a dx g mu => by
  show eExn i f 0 none (g.set i (.exn c p 0 none)) mu = eExn i f a dx (g.set i (.exn c p a dx)) mu
  unfold eExn
  by_cases hi : i < g.length
  · rw [List.getElem?_set_self hi, List.getElem?_set_self hi]
    cases p with
    | none => rfl
    | some fd =>
      obtain ⟨f', d⟩ := fd
      by_cases e : f' = f
      · subst e
        simp
      · simp [e]
  · rw [List.getElem?_eq_none (by simpa using hi), List.getElem?_eq_none (by simpa using hi)]
theorem plc_nil : PlcA i fun _ _ => aNil := fun _ _ _ _ _ _ => rfl
theorem plc_cons (h1 : Plc i m) (h2 : PlcA i am) : PlcA i fun a dx => aCons (m a dx) (am a dx) := fun c p a dx g mu => by
  show aCons (m 0 none) (am 0 none) (g.set i (.exn c p 0 none)) mu = aCons (m a dx) (am a dx) (g.set i (.exn c p a dx)) mu
  unfold aCons
  rw [h1 c p a dx g mu]
  congr 1
  funext d mu1
  rw [h2 c p a dx g mu1]
theorem plc_lst (h : PlcA i am) : Plc i fun a dx => eLst (am a dx) := fun c p a dx g mu => by
  show eLst (am 0 none) (g.set i (.exn c p 0 none)) mu = eLst (am a dx) (g.set i (.exn c p a dx)) mu
  unfold eLst
  rw [h c p a dx g mu]
theorem plc_tup (h : PlcA i am) : Plc i fun a dx => eTup (am a dx) := fun c p a dx g mu => by
  show eTup (am 0 none) (g.set i (.exn c p 0 none)) mu = eTup (am a dx) (g.set i (.exn c p a dx)) mu
  unfold eTup
  rw [h c p a dx g mu]
theorem plc_call {f : List D → Option D} (h : PlcA i am) : Plc i fun a dx => eCall f (am a dx) := fun c p a dx g mu => by
  show eCall f (am 0 none) (g.set i (.exn c p 0 none)) mu = eCall f (am a dx) (g.set i (.exn c p a dx)) mu
  unfold eCall
  rw [h c p a dx g mu]
theorem pl_ret (h : Plc i m) : Placed i fun _ a dx => sRet (m a dx) := fun c p a dx g mu d mu' e => by
  have e : sRet (m 0 none) (g.set i (.exn c p 0 none)) mu = .rt d mu' := e
  show sRet (m a dx) (g.set i (.exn c p a dx)) mu = .rt d mu'
  unfold sRet at e ⊢
  rw [h c p a dx g mu] at e
  cases q : m a dx (g.set i (.exn c p a dx)) mu with
  | ok d2 mu2 =>
    rw [q] at e
    exact e
  | exc c2 p2 mu2 => rw [q] at e; cases e
  | bad => rw [q] at e; cases e
end
end Wf
/-! W17: the steps of what is computed, as equations. -/
namespace Wf
open PySem L2

section
variable {α β : Type} {a : α} {mu : Mu} {g : Gm} {c : Str} {p : Option (Str × D)}
@[simp] theorem bind_ok {f : α → Mu → R β} : (R.ok a mu).bind f = f a mu := (rfl)
@[simp] theorem bind_exc {f : α → Mu → R β} : (R.exc c p mu : R α).bind f = .exc c p mu := (rfl)
@[simp] theorem bind_bad {f : α → Mu → R β} : (R.bad : R α).bind f = .bad := (rfl)
@[simp] theorem toS_ok {f : α → Mu → RS} : (R.ok a mu).toS g f = f a mu := (rfl)
@[simp] theorem toS_exc {f : α → Mu → RS} : (R.exc c p mu : R α).toS g f = .exc c p g mu := (rfl)
@[simp] theorem toS_bad {f : α → Mu → RS} : (R.bad : R α).toS g f = .bad := (rfl)
@[simp] theorem seq_nx {f : SM} : (RS.nx g mu).seq f = f g mu := (rfl)
@[simp] theorem seq_rt {f : SM} {d : D} : (RS.rt d mu).seq f = .rt d mu := (rfl)
@[simp] theorem seq_bk {f : SM} : (RS.bk g mu).seq f = .bk g mu := (rfl)
@[simp] theorem seq_ct {f : SM} : (RS.ct g mu).seq f = .ct g mu := (rfl)
@[simp] theorem seq_exc {f : SM} : (RS.exc c p g mu).seq f = .exc c p g mu := (rfl)
@[simp] theorem seq_bad {f : SM} : RS.bad.seq f = .bad := (rfl)
end
section
variable {g : Gm} {mu : Mu} {m ma mb mc : EM} {am : AM} {mt mt2 : TM} {sa sb : SM} {i j k : Nat} {d e : D} {f f2 : D → D → Option D} {F : List D → Option D} {fm : FM} {bm : BM} {ml mh : OM} {gm : GM} {gs : GsM} {im : IM} {pm : PM}
@[simp] theorem q_c : eC d g mu = .ok d mu := (rfl)
@[simp] theorem q_op2 : eOp2 f ma mb g mu = (ma g mu).bind fun x mu1 => (mb g mu1).bind fun y mu2 => match f x y with | some z => .ok z mu2 | none => .bad := (rfl)
@[simp] theorem q_op1 {f1 : D → Option D} : eOp1 f1 ma g mu = (ma g mu).bind fun x mu1 => match f1 x with | some z => .ok z mu1 | none => .bad := (rfl)
@[simp] theorem q_mT : mT m g mu = (m g mu).bind fun d mu1 => match d with | .bool b => .ok b mu1 | _ => .bad := (rfl)
@[simp] theorem q_mTru : mTru m g mu = (m g mu).bind fun d mu1 => match tru d with | some b => .ok b mu1 | none => .bad := (rfl)
@[simp] theorem q_mNot : mNot mt g mu = (mt g mu).bind fun b mu1 => .ok (!b) mu1 := (rfl)
@[simp] theorem q_mAnd : mAnd mt mt2 g mu = (mt g mu).bind fun b mu1 => if b = true then mt2 g mu1 else .ok false mu1 := (rfl)
@[simp] theorem q_mOr : mOr mt mt2 g mu = (mt g mu).bind fun b mu1 => if b = true then .ok true mu1 else mt2 g mu1 := (rfl)
@[simp] theorem q_not : eNot m g mu = (m g mu).bind fun d mu1 => match d with | .bool b => .ok (.bool (!b)) mu1 | _ => .bad := (rfl)
@[simp] theorem q_and : eAnd ma mb g mu = (ma g mu).bind fun d mu1 => match d with | .bool b => if b = true then mb g mu1 else .ok (.bool false) mu1 | _ => .bad := (rfl)
@[simp] theorem q_or : eOr ma mb g mu = (ma g mu).bind fun d mu1 => match d with | .bool b => if b = true then .ok (.bool true) mu1 else mb g mu1 | _ => .bad := (rfl)
@[simp] theorem q_if : eIf mt ma mb g mu = (mt g mu).bind fun b mu1 => if b = true then ma g mu1 else mb g mu1 := (rfl)
@[simp] theorem q_chain : eChain f f2 ma mb mc g mu = (ma g mu).bind fun x mu1 => (mb g mu1).bind fun y mu2 => match f x y with
  | some (.bool b) => if b = true then (mc g mu2).bind fun z mu3 => (match f2 y z with | some w => .ok w mu3 | none => .bad) else .ok (.bool false) mu2
  | _ => .bad := (rfl)
@[simp] theorem q_anil : aNil g mu = .ok [] mu := (rfl)
@[simp] theorem q_acons : aCons ma am g mu = (ma g mu).bind fun d mu1 => (am g mu1).bind fun ds mu2 => .ok (d :: ds) mu2 := (rfl)
@[simp] theorem q_call : eCall F am g mu = (am g mu).bind fun ds mu1 => match F ds with | some z => .ok z mu1 | none => .bad := (rfl)
@[simp] theorem q_tup : eTup am g mu = (am g mu).bind fun ds mu1 => if ds.length ≤ lineN then .ok (.tuple ds) mu1 else .bad := (rfl)
@[simp] theorem q_lst : eLst am g mu = (am g mu).bind fun ds mu1 => if ds.length ≤ lineN then .ok (.list ds) mu1 else .bad := (rfl)
@[simp] theorem q_ono : oNo g mu = .ok none mu := (rfl)
@[simp] theorem q_cut : eCut ma ml mh g mu = (ma g mu).bind fun d mu1 => (ml g mu1).bind fun lo mu2 => (mh g mu2).bind fun hi mu3 => match fCut d lo hi with | some z => .ok z mu3 | none => .bad := (rfl)
@[simp] theorem q_bnil : bNil g mu = .ok [] mu := (rfl)
@[simp] theorem q_bcons : bCons ma bm g mu = (ma g mu).bind fun d mu1 => (bm g mu1).bind fun ss mu2 => .ok (.val d :: ss) mu2 := (rfl)
@[simp] theorem q_fn : eFn fm bm g mu = (bm g mu).bind fun ss mu1 => match fm ss [] with | .ok d _ => .ok d mu1 | .exc c p _ => .exc c p mu1 | .bad => .bad := (rfl)
@[simp] theorem q_fnM : eFnM fm bm g mu = (bm g mu).bind fun ss mu1 => fm ss mu1 := (rfl)
@[simp] theorem q_ret : sRet m g mu = (m g mu).toS g fun d mu1 => .rt d mu1 := (rfl)
@[simp] theorem q_retN : sRetN g mu = .rt .none mu := (rfl)
@[simp] theorem q_pass : sPass g mu = .nx g mu := (rfl)
@[simp] theorem q_break : sBreak g mu = .bk g mu := (rfl)
@[simp] theorem q_cont : sCont g mu = .ct g mu := (rfl)
@[simp] theorem q_set : sSet i m g mu = (m g mu).toS g fun d mu1 => sNx (setSl g i (.val d)) mu1 := (rfl)
@[simp] theorem q_own : sOwn i am g mu = (am g mu).toS g fun ds mu1 => if ds.length ≤ lineN then sNx (setSl g i (.own ds)) mu1 else .bad := (rfl)
@[simp] theorem q_nx {g2 : Gm} : sNx (some g2) mu = .nx g2 mu := (rfl)
@[simp] theorem q_nxN : sNx none mu = .bad := (rfl)
@[simp] theorem q_drop : sDrop m g mu = (m g mu).toS g fun _ mu1 => .nx g mu1 := (rfl)
@[simp] theorem q_sif : sIf mt sa sb g mu = (mt g mu).toS g fun k mu1 => if k = true then sa g mu1 else sb g mu1 := (rfl)
@[simp] theorem q_seq : sSeq sa sb g mu = (sa g mu).seq sb := (rfl)
theorem q_for : sFor im gm sb g mu = (im g mu).toS g fun ds mu1 => forS gm sb ds g mu1 := (rfl)
@[simp] theorem q_asg : sAsg m gm g mu = (m g mu).toS g fun d mu1 => match gm d g mu1 with | some (g', mu') => .nx g' mu' | none => .bad := (rfl)
@[simp] theorem q_parO {is : List Nat} : sParO is pm g mu = (pm g mu).toS g fun ss mu1 => sNx (setSls g is ss) mu1 := (rfl)
@[simp] theorem q_pnil : pNil g mu = .ok [] mu := (rfl)
@[simp] theorem q_pval : pVal m pm g mu = (m g mu).bind fun d mu1 => (pm g mu1).bind fun ss mu2 => .ok (.val d :: ss) mu2 := (rfl)
@[simp] theorem q_pown : pOwn am pm g mu = (am g mu).bind fun ds mu1 => if ds.length ≤ lineN then (pm g mu1).bind fun ss mu2 => .ok (.own ds :: ss) mu2 else .bad := (rfl)
@[simp] theorem q_raise {c f : Str} : sRaise c f m g mu = (m g mu).toS g fun d mu1 => .exc c (some (f, d)) g mu1 := (rfl)
@[simp] theorem q_iseq : iSeq m g mu = (m g mu).bind fun d mu1 => match d with | .list ds => .ok ds mu1 | .tuple ds => .ok ds mu1 | _ => .bad := (rfl)
@[simp] theorem q_yes : mYes g mu = .ok true mu := (rfl)
theorem q_comp {vs : List Nat} : eComp vs im gm mt m g mu = (im g mu).bind fun ds mu1 => match compS gm mt m ds (wipeG g vs) mu1 with | .ok ys mu2 => if ys.length ≤ lineN then .ok (.list ys) mu2 else .bad | _ => .bad := (rfl)
@[simp] theorem q_tnil : mNil [] g mu = some (g, mu) := (rfl)
@[simp] theorem q_tcons {ds : List D} : mCons gm gs (d :: ds) g mu = match gm d g mu with | some (g1, mu1) => gs ds g1 mu1 | none => none := (rfl)
@[simp] theorem q_ttup {n : Nat} {ds : List D} : mTup n gs (.tuple ds) g mu = if ds.length = n then gs ds g mu else none := (rfl)
@[simp] theorem q_tname : mName i d g mu = (setSl g i (.val d)).map fun g' => (g', mu) := (rfl)

@[simp] theorem f_add {a b : Int} : fAdd (.int a) (.int b) = some (.int (a + b)) := (rfl)
@[simp] theorem f_sub {a b : Int} : fSub (.int a) (.int b) = some (.int (a - b)) := (rfl)
@[simp] theorem f_neg {a : Int} : fNeg (.int a) = some (.int (-a)) := (rfl)
@[simp] theorem f_lt {a b : Int} : fLt (.int a) (.int b) = some (.bool (decide (a < b))) := (rfl)
@[simp] theorem f_le {a b : Int} : fLe (.int a) (.int b) = some (.bool (decide (a ≤ b))) := (rfl)
@[simp] theorem f_gt {a b : Int} : fGt (.int a) (.int b) = some (.bool (decide (b < a))) := (rfl)
@[simp] theorem f_ge {a b : Int} : fGe (.int a) (.int b) = some (.bool (decide (b ≤ a))) := (rfl)
@[simp] theorem f_int {a : Int} : fInt [.int a] = some (.int a) := (rfl)
@[simp] theorem f_abs {a : Int} : fAbs [.int a] = some (.int (if a < 0 then -a else a)) := (rfl)
@[simp] theorem f_lenL {ds : List D} : fLen [.list ds] = some (.int ds.length) := (rfl)
@[simp] theorem f_lenT {ds : List D} : fLen [.tuple ds] = some (.int ds.length) := (rfl)
@[simp] theorem f_lenS {ds : List D} : fLen [.dict [(.none, .list ds)]] = some (.int ds.length) := (rfl)
@[simp] theorem f_tupL {ds : List D} : fTuple [.list ds] = some (.tuple ds) := (rfl)
@[simp] theorem f_tupT {ds : List D} : fTuple [.tuple ds] = some (.tuple ds) := (rfl)
@[simp] theorem f_lstL {ds : List D} : fList [.list ds] = some (.list ds) := (rfl)
@[simp] theorem f_lstT {ds : List D} : fList [.tuple ds] = some (.list ds) := (rfl)
@[simp] theorem f_max2 {a b : Int} : fMax [.int a, .int b] = some (.int (if b > a then b else a)) := (rfl)
@[simp] theorem f_min2 {a b : Int} : fMin [.int a, .int b] = some (.int (if b < a then b else a)) := (rfl)
@[simp] theorem f_addT {a b : List D} : fAdd (.tuple a) (.tuple b) = if a.length + b.length ≤ lineN then some (.tuple (a ++ b)) else none := (rfl)
@[simp] theorem f_addL {a b : List D} : fAdd (.list a) (.list b) = if a.length + b.length ≤ lineN then some (.list (a ++ b)) else none := (rfl)
@[simp] theorem f_ixL {ds : List D} {i : Int} : fIx (.list ds) (.int i) = atI ds i := (rfl)
@[simp] theorem f_ixT {ds : List D} {i : Int} : fIx (.tuple ds) (.int i) = atI ds i := (rfl)
@[simp] theorem f_ixS {ds : List D} {i : Int} : fIx (.dict [(.none, .list ds)]) (.int i) = atI ds i := (rfl)
@[simp] theorem f_cutL {ds : List D} {lo hi : Option Int} : fCut (.list ds) lo hi = some (.list (cutD ds lo hi)) := (rfl)
@[simp] theorem f_cutT {ds : List D} {lo hi : Option Int} : fCut (.tuple ds) lo hi = some (.tuple (cutD ds lo hi)) := (rfl)
@[simp] theorem f_cutS {ds : List D} {lo hi : Option Int} : fCut (.dict [(.none, .list ds)]) lo hi = some (.list (cutD ds lo hi)) := (rfl)
@[simp] theorem f_truB {b : Bool} : tru (.bool b) = some b := (rfl)
@[simp] theorem f_truN : tru .none = some false := (rfl)
theorem atI_nn {ds : List D} {i : Nat} {d : D} (h : ds[i]? = some d) : atI ds (i : Int) = some d := by
  have hl := (List.getElem?_eq_some_iff.mp h).1
  unfold atI ixN
  rw [if_pos (by omega), if_pos (by omega)]
  simpa using h
theorem atI_of {ds : List D} {i : Int} {d : D} (h0 : 0 ≤ i) (h : ds[i.toNat]? = some d) : atI ds i = some d := by
  have e : i = ((i.toNat : Nat) : Int) := by omega
  rw [e]
  exact atI_nn h
theorem log_small {a : Int} {n : Nat} (h : a.natAbs < 2 ^ n) : a.natAbs.log2 ≤ n := by
  by_cases h0 : a.natAbs = 0
  · rw [h0]
    exact Nat.zero_le _
  · exact Nat.le_of_lt ((Nat.log2_lt h0).mpr h)
theorem f_mul {a b : Int} (h1 : a.natAbs < 2 ^ 1000) (h2 : b.natAbs < 2 ^ 1000) : fMul (.int a) (.int b) = some (.int (a * b)) := by
  have e1 := log_small h1
  have e2 := log_small h2
  show (if a.natAbs.log2 + b.natAbs.log2 < 1000000 then some (PyData.int (a * b)) else none) = _
  rw [if_pos (by omega)]
theorem f_mod {a b : Int} (h : b ≠ 0) : fMod (.int a) (.int b) = some (.int (a.fmod b)) := if_pos h
theorem f_div {a b : Int} (h : b ≠ 0) (h2 : b.natAbs < 2 ^ 1000) : fDiv (.int a) (.int b) = some (.int (a.fdiv b)) := by
  have e := log_small h2
  exact if_pos ⟨h, by omega⟩
theorem f_pow {a b : Int} (h1 : 0 ≤ b) (h2 : b ≤ 1000000) (h3 : a.natAbs < 2 ^ 64) : fPow (.int a) (.int b) = some (.int (a ^ b.toNat)) := if_pos ⟨h1, h2, h3⟩
theorem f_divmod {a b : Int} (h1 : 0 < b) (h2 : b < 1073741824) : fDivmod [.int a, .int b] = some (.tuple [.int (a / b), .int (a % b)]) := if_pos ⟨h1, h2⟩
/-! ### classes of data -/
def isI : D → Bool
  | .int _ => true
  | .bool _ => true
  | _ => false
def isB : D → Bool
  | .bool _ => true
  | _ => false
def isTu : D → Bool
  | .tuple _ => true
  | _ => false
def isLi : D → Bool
  | .list _ => true
  | _ => false
def isSt : D → Bool
  | .str _ => true
  | _ => false
/-- no script, no written dict -/
def fine : D → Bool
  | .dict (_ :: _) => false
  | _ => true
theorem fine_ty (h : fine d = true) : tyD d ≠ "?" := by
  unfold fine at h
  split at h
  · cases h
  · rename_i hn
    intro e
    cases d with
    | dict kvs =>
      cases kvs with
      | nil => exact absurd e (by decide)
      | cons kv r => exact hn _ _ rfl
    | none => exact absurd e (by decide)
    | bool b => exact absurd (show "bool" = "?" from e) (by decide)
    | int b => exact absurd (show "int" = "?" from e) (by decide)
    | str b => exact absurd (show "str" = "?" from e) (by decide)
    | tuple b => exact absurd (show "tuple" = "?" from e) (by decide)
    | list b => exact absurd (show "list" = "?" from e) (by decide)
theorem isi_of {T : String} {q : D → Bool} (hq : ∀ d, fine d = true → kitB (tyD d) T = some (q d)) (h : m g mu = .ok d mu) (hf : fine d = true) : eIsi T m g mu = .ok (.bool (q d)) mu := by
  unfold eIsi
  rw [h, bind_ok, if_neg (fine_ty hf), hq d hf]
theorem kit_int (d : D) (h : fine d = true) : kitB (tyD d) "int" = some (isI d) := by
  cases d with
  | none => exact (by decide +kernel : kitB "NoneType" "int" = some false)
  | bool b => exact (by decide +kernel : kitB "bool" "int" = some true)
  | int b => exact (by decide +kernel : kitB "int" "int" = some true)
  | str b => exact (by decide +kernel : kitB "str" "int" = some false)
  | tuple b => exact (by decide +kernel : kitB "tuple" "int" = some false)
  | list b => exact (by decide +kernel : kitB "list" "int" = some false)
  | dict kvs =>
    cases kvs with
    | nil => exact (by decide +kernel : kitB "dict" "int" = some false)
    | cons _ _ => cases h
theorem kit_bool (d : D) (h : fine d = true) : kitB (tyD d) "bool" = some (isB d) := by
  cases d with
  | none => exact (by decide +kernel : kitB "NoneType" "bool" = some false)
  | bool b => exact (by decide +kernel : kitB "bool" "bool" = some true)
  | int b => exact (by decide +kernel : kitB "int" "bool" = some false)
  | str b => exact (by decide +kernel : kitB "str" "bool" = some false)
  | tuple b => exact (by decide +kernel : kitB "tuple" "bool" = some false)
  | list b => exact (by decide +kernel : kitB "list" "bool" = some false)
  | dict kvs =>
    cases kvs with
    | nil => exact (by decide +kernel : kitB "dict" "bool" = some false)
    | cons _ _ => cases h
theorem kit_tuple (d : D) (h : fine d = true) : kitB (tyD d) "tuple" = some (isTu d) := by
  cases d with
  | none => exact (by decide +kernel : kitB "NoneType" "tuple" = some false)
  | bool b => exact (by decide +kernel : kitB "bool" "tuple" = some false)
  | int b => exact (by decide +kernel : kitB "int" "tuple" = some false)
  | str b => exact (by decide +kernel : kitB "str" "tuple" = some false)
  | tuple b => exact (by decide +kernel : kitB "tuple" "tuple" = some true)
  | list b => exact (by decide +kernel : kitB "list" "tuple" = some false)
  | dict kvs =>
    cases kvs with
    | nil => exact (by decide +kernel : kitB "dict" "tuple" = some false)
    | cons _ _ => cases h
theorem kit_list (d : D) (h : fine d = true) : kitB (tyD d) "list" = some (isLi d) := by
  cases d with
  | none => exact (by decide +kernel : kitB "NoneType" "list" = some false)
  | bool b => exact (by decide +kernel : kitB "bool" "list" = some false)
  | int b => exact (by decide +kernel : kitB "int" "list" = some false)
  | str b => exact (by decide +kernel : kitB "str" "list" = some false)
  | tuple b => exact (by decide +kernel : kitB "tuple" "list" = some false)
  | list b => exact (by decide +kernel : kitB "list" "list" = some true)
  | dict kvs =>
    cases kvs with
    | nil => exact (by decide +kernel : kitB "dict" "list" = some false)
    | cons _ _ => cases h
theorem kit_str (d : D) (h : fine d = true) : kitB (tyD d) "str" = some (isSt d) := by
  cases d with
  | none => exact (by decide +kernel : kitB "NoneType" "str" = some false)
  | bool b => exact (by decide +kernel : kitB "bool" "str" = some false)
  | int b => exact (by decide +kernel : kitB "int" "str" = some false)
  | str b => exact (by decide +kernel : kitB "str" "str" = some true)
  | tuple b => exact (by decide +kernel : kitB "tuple" "str" = some false)
  | list b => exact (by decide +kernel : kitB "list" "str" = some false)
  | dict kvs =>
    cases kvs with
    | nil => exact (by decide +kernel : kitB "dict" "str" = some false)
    | cons _ _ => cases h
end

theorem le_line {n : Nat} (h : n ≤ 1000000) : n ≤ lineN := Nat.le_trans h (by decide)
theorem lt_line {n : Nat} (h : n < 1000000) : n < lineN := Nat.lt_of_lt_of_le h (by decide)
/-! ### loops -/
theorem forS_inv {α : Type} {gm : GM} {body : SM} {enc : α → D} (I : Nat → Gm → Mu → Prop) : ∀ (xs : List α) (n : Nat) (g : Gm) (mu : Mu), I n g mu →
    (∀ (i : Nat) x g mu, xs[i]? = some x → I (n + i) g mu → ∃ g1 mu1 g2 mu2, gm (enc x) g mu = some (g1, mu1) ∧ body g1 mu1 = .nx g2 mu2 ∧ I (n + i + 1) g2 mu2) →
    ∃ g' mu', forS gm body (xs.map enc) g mu = .nx g' mu' ∧ I (n + xs.length) g' mu'
  | [], n, g, mu, h, _ => ⟨g, mu, rfl, h⟩
  | x :: xs, n, g, mu, h, st => by
    obtain ⟨g1, mu1, g2, mu2, e1, e2, h2⟩ := st 0 x g mu rfl h
    obtain ⟨g', mu', e3, h3⟩ := forS_inv I xs (n + 1) g2 mu2 h2 fun i y g mu hy hi => by
      have e : n + 1 + i = n + (i + 1) := by omega
      rw [e] at hi ⊢
      exact st (i + 1) y g mu (by simpa using hy) hi
    refine ⟨g', mu', ?_, ?_⟩
    · rw [List.map_cons]
      unfold forS
      rw [e1]
      dsimp only
      rw [e2]
      exact e3
    · have e : n + (x :: xs).length = n + 1 + xs.length := by rw [List.length_cons]; omega
      rw [e]; exact h3
/-- a comprehension that only looks -/
theorem compS_map {α : Type} {gm : GM} {mt : TM} {me : EM} {enc : α → D} {f : α → D} {g : Gm} {mu : Mu} : ∀ {xs : List α}, (∀ x ∈ xs, ∃ g1, gm (enc x) g mu = some (g1, mu) ∧ mt g1 mu = .ok true mu ∧ me g1 mu = .ok (f x) mu) →
    compS gm mt me (xs.map enc) g mu = .ok (xs.map f) mu
  | [], _ => rfl
  | x :: xs, h => by
    obtain ⟨g1, e1, e2, e3⟩ := h x List.mem_cons_self
    have ih := compS_map (gm := gm) (mt := mt) (me := me) (enc := enc) (f := f) (g := g) (mu := mu) (xs := xs) fun y hy => h y (List.mem_cons_of_mem _ hy)
    rw [List.map_cons]
    unfold compS
    rw [e1]
    dsimp only
    rw [e2, bind_ok, if_pos rfl, e3, bind_ok, ih, bind_ok, List.map_cons]
theorem compS_filter {α : Type} {gm : GM} {mt : TM} {me : EM} {enc : α → D} {f : α → D} {p : α → Bool} {g : Gm} {mu : Mu} : ∀ {xs : List α}, (∀ x ∈ xs, ∃ g1, gm (enc x) g mu = some (g1, mu) ∧ mt g1 mu = .ok (p x) mu ∧ (p x = true → me g1 mu = .ok (f x) mu)) →
    compS gm mt me (xs.map enc) g mu = .ok ((xs.filter p).map f) mu
  | [], _ => rfl
  | x :: xs, h => by
    obtain ⟨g1, e1, e2, e3⟩ := h x List.mem_cons_self
    have ih := compS_filter (gm := gm) (mt := mt) (me := me) (enc := enc) (f := f) (p := p) (g := g) (mu := mu) (xs := xs) fun y hy => h y (List.mem_cons_of_mem _ hy)
    rw [List.map_cons]
    unfold compS
    rw [e1]
    dsimp only
    rw [e2, bind_ok]
    cases hp : p x with
    | true =>
      rw [if_pos rfl, e3 hp, bind_ok, ih, bind_ok, List.filter_cons_of_pos hp, List.map_cons]
    | false =>
      rw [if_neg (by simp), ih, List.filter_cons_of_neg (by simp [hp])]
/-- one that draws -/
theorem compS_draw {α : Type} {gm : GM} {mt : TM} {me : EM} {enc : α → D} {g : Gm} (I : Nat → Mu → Prop) (Q : D → Prop) : ∀ (xs : List α) (n : Nat) (mu : Mu), I n mu →
    (∀ (i : Nat) x mu, xs[i]? = some x → I (n + i) mu → ∃ g1, gm (enc x) g mu = some (g1, mu) ∧ mt g1 mu = .ok true mu ∧ ∃ d mu2, me g1 mu = .ok d mu2 ∧ Q d ∧ I (n + i + 1) mu2) →
    ∃ ys mu', compS gm mt me (xs.map enc) g mu = .ok ys mu' ∧ ys.length = xs.length ∧ (∀ y ∈ ys, Q y) ∧ I (n + xs.length) mu'
  | [], n, mu, h, _ => ⟨[], mu, rfl, rfl, fun _ h => absurd h List.not_mem_nil, h⟩
  | x :: xs, n, mu, h, st => by
    obtain ⟨g1, e1, e2, d, mu2, e3, hq, h2⟩ := st 0 x mu rfl h
    obtain ⟨ys, mu', e4, hl, hy, h3⟩ := compS_draw (gm := gm) (mt := mt) (me := me) (enc := enc) (g := g) I Q xs (n + 1) mu2 h2 fun i y mu hy hi => by
      have e : n + 1 + i = n + (i + 1) := by omega
      rw [e] at hi ⊢
      exact st (i + 1) y mu (by simpa using hy) hi
    refine ⟨d :: ys, mu', ?_, by rw [List.length_cons, List.length_cons, hl], fun y hm => ?_, ?_⟩
    · rw [List.map_cons]
      unfold compS
      rw [e1]
      dsimp only
      rw [e2, bind_ok, if_pos rfl, e3, bind_ok, e4, bind_ok]
    · rcases List.mem_cons.mp hm with e | hm
      · rw [e]; exact hq
      · exact hy y hm
    · have e : n + (x :: xs).length = n + 1 + xs.length := by rw [List.length_cons]; omega
      rw [e]; exact h3
/-- the names of a range -/
theorem iRange1_ok {am : AM} {g : Gm} {mu mu1 : Mu} {n : Nat} (h : am g mu = .ok [.int (n : Int)] mu1) (hn : n < 2 ^ 62) : iRange1 am g mu = .ok ((List.range n).map fun (i : Nat) => PyData.int (i : Int)) mu1 := by
  unfold iRange1
  rw [h, bind_ok]
  dsimp only
  rw [if_pos (by omega)]
  simp
/-- a body's end -/
theorem body_rt {n : Nat} {m : SM} {as : List Sl} {mu mu1 : Mu} {d : D} (h : m (as ++ List.replicate (n - as.length) .no) mu = .rt d mu1) : bodyM n m as mu = .ok d mu1 := by
  unfold bodyM
  rw [h]
theorem body_nx {n : Nat} {m : SM} {as : List Sl} {g : Gm} {mu mu1 : Mu} (h : m (as ++ List.replicate (n - as.length) .no) mu = .nx g mu1) : bodyM n m as mu = .ok .none mu1 := by
  unfold bodyM
  rw [h]
theorem body_exc {n : Nat} {m : SM} {as : List Sl} {g : Gm} {mu mu1 : Mu} {c : Str} {p : Option (Str × D)} (h : m (as ++ List.replicate (n - as.length) .no) mu = .exc c p g mu1) : bodyM n m as mu = .exc c p mu1 := by
  unfold bodyM
  rw [h]
end Wf
/-! W18: room for a repr. -/
namespace Wf
open PySem L2

mutual
/-- small ints, no dict -/
def okD : D → Bool
  | .none => true
  | .bool _ => true
  | .int i => decide (i.natAbs < 10 ^ 12)
  | .str _ => false
  | .tuple ds => okA ds
  | .list ds => okA ds
  | .dict _ => false
def okA : List D → Bool
  | [] => true
  | d :: ds => okD d && okA ds
end
theorem showable_small {i : Int} (h : i.natAbs < 10 ^ 12) : decide (i.natAbs.log2 < 1920) = true := by
  have e : i.natAbs < 2 ^ 64 := Nat.lt_of_lt_of_le h (by decide)
  have z := log_small e
  exact decide_eq_true (by omega)
mutual
theorem okD_ok : ∀ d : D, okD d = true → PyData.leavesShort 13 d = true ∧ d.showable = true ∧ d.hasDict = false
  | .none, _ => ⟨rfl, rfl, rfl⟩
  | .bool _, _ => ⟨rfl, rfl, rfl⟩
  | .int i, h => by
    have h : i.natAbs < 10 ^ 12 := by simpa only [okD, decide_eq_true_eq] using h
    refine ⟨?_, ?_, rfl⟩
    · simp only [PyData.leavesShort]
      exact decide_eq_true (PyData.shown_int_le h)
    · simp only [PyData.showable]
      exact showable_small h
  | .str x, h => by simp only [okD] at h; cases h
  | .tuple ds, h => by
    obtain ⟨h1, h2, h3⟩ := okA_ok ds (by simpa only [okD] using h)
    exact ⟨by simpa only [PyData.leavesShort] using h1, by simpa only [PyData.showable] using h2, by simpa only [PyData.hasDict] using h3⟩
  | .list ds, h => by
    obtain ⟨h1, h2, h3⟩ := okA_ok ds (by simpa only [okD] using h)
    exact ⟨by simpa only [PyData.leavesShort] using h1, by simpa only [PyData.showable] using h2, by simpa only [PyData.hasDict] using h3⟩
  | .dict _, h => by simp only [okD] at h; cases h
theorem okA_ok : ∀ ds : List D, okA ds = true → PyData.leavesShortAll 13 ds = true ∧ PyData.showableAll ds = true ∧ PyData.hasDictAll ds = false
  | [], _ => ⟨rfl, rfl, rfl⟩
  | d :: ds, h => by
    simp only [okA, Bool.and_eq_true] at h
    obtain ⟨a1, a2, a3⟩ := okD_ok d h.1
    obtain ⟨b1, b2, b3⟩ := okA_ok ds h.2
    simp only [PyData.leavesShortAll, PyData.showableAll, PyData.hasDictAll, a1, a2, a3, b1, b2, b3]
    exact ⟨rfl, rfl, rfl⟩
end
theorem repr_ok {d : D} (h : okD d = true) (hb : d.bulk ≤ 2 ^ 20) (hd : d.depth ≤ 60) : fRepr [d] = some (.str d.shown) := by
  obtain ⟨h1, h2, h3⟩ := okD_ok d h
  have h4 := PyData.shown_fits_bulk (B := 13) (by decide) (by decide) h1 hb
  rw [line_eq] at h4
  unfold fRepr showOk
  dsimp only
  rw [h2, h3]
  simp only [Bool.not_false, Bool.and_self, Bool.true_and, Bool.and_eq_true, decide_eq_true_eq]
  rw [if_pos ⟨h4, hd⟩]
theorem okA_mem : ∀ {ds : List D}, (∀ d ∈ ds, okD d = true) → okA ds = true
  | [], _ => rfl
  | d :: ds, h => by
    simp only [okA, Bool.and_eq_true]
    exact ⟨h d List.mem_cons_self, okA_mem fun e he => h e (List.mem_cons_of_mem _ he)⟩
theorem bulkA_le {c : Nat} : ∀ {ds : List D}, (∀ d ∈ ds, d.bulk ≤ c) → PyData.bulkAll ds ≤ ds.length * (c + 1)
  | [], _ => by simp [PyData.bulkAll]
  | d :: ds, h => by
    have h1 := h d List.mem_cons_self
    have h2 := bulkA_le fun e he => h e (List.mem_cons_of_mem d he)
    simp only [PyData.bulkAll, List.length_cons, Nat.succ_mul]
    omega
theorem depA_le {c : Nat} : ∀ {ds : List D}, (∀ d ∈ ds, d.depth ≤ c) → PyData.depthAll ds ≤ c
  | [], _ => by simp [PyData.depthAll]
  | d :: ds, h => by
    have h1 := h d List.mem_cons_self
    have h2 := depA_le fun e he => h e (List.mem_cons_of_mem d he)
    simp only [PyData.depthAll]
    omega
/-! texts are in order -/
theorem sok_lit (x : String) : PyData.strOk (Str.ofString x) = true := by
  unfold PyData.strOk
  rw [Str.ofString_eq_toList]
  simp only [List.all_toArray, List.all_map, List.all_eq_true]
  intro c _
  have h := c.valid
  have h2 : c.toNat < 0x110000 := by
    rcases h with h | ⟨_, h⟩
    · have h : c.toNat < 0xd800 := h
      omega
    · exact h
  exact decide_eq_true h2
theorem sok_app {x y : Str} (h1 : PyData.strOk x = true) (h2 : PyData.strOk y = true) : PyData.strOk (x ++ y) = true := by
  unfold PyData.strOk at h1 h2 ⊢
  have e : (x ++ y).cps = x.cps ++ y.cps := rfl
  rw [e, Array.all_append, h1, h2]
  rfl
theorem sok_join : ∀ xs : List Str, (∀ x ∈ xs, PyData.strOk x = true) → PyData.strOk (Str.join ", " xs) = true
  | [], _ => by simp [Str.join, PyData.strOk, Str.empty]
  | [x], h => h x List.mem_cons_self
  | x :: y :: r, h => sok_app (sok_app (h x List.mem_cons_self) (sok_lit ", ")) (sok_join (y :: r) fun z hz => h z (List.mem_cons_of_mem _ hz))
theorem sok_from : ∀ (xs : List Str) (k : Nat) (acc : Str), PyData.strOk acc = true → (∀ x ∈ xs, PyData.strOk x = true) → PyData.strOk (textFrom k acc xs) = true
  | [], _, acc, h, _ => h
  | x :: xs, k, acc, h, hx => by
    unfold textFrom
    refine sok_from xs (k + 1) _ (sok_app (sok_app h ?_) (hx x List.mem_cons_self)) fun z hz => hx z (List.mem_cons_of_mem _ hz)
    exact sok_lit _
mutual
theorem sok_shown : ∀ d : D, okD d = true → PyData.strOk d.shown = true
  | .none, _ => sok_lit "None"
  | .bool b, _ => by cases b <;> exact sok_lit _
  | .int i, _ => sok_lit _
  | .str x, h => by simp only [okD] at h; cases h
  | .tuple ds, h => by
    have z := sok_all ds (by simpa only [okD] using h)
    simp only [PyData.shown]
    exact sok_app (sok_app (sok_lit "(") (sok_join _ z)) (sok_lit _)
  | .list ds, h => by
    have z := sok_all ds (by simpa only [okD] using h)
    simp only [PyData.shown]
    exact sok_app (sok_from _ 0 _ (sok_lit "[") z) (sok_lit "]")
  | .dict _, h => by simp only [okD] at h; cases h
theorem sok_all : ∀ ds : List D, okA ds = true → ∀ x ∈ PyData.shownAll ds, PyData.strOk x = true
  | [], _, x, hx => absurd hx List.not_mem_nil
  | d :: ds, h, x, hx => by
    simp only [okA, Bool.and_eq_true] at h
    simp only [PyData.shownAll] at hx
    rcases List.mem_cons.mp hx with e | hx
    · rw [e]; exact sok_shown d h.1
    · exact sok_all ds h.2 x hx
end
/-! texts are equal, or not -/
theorem eq_str {x y : Str} (h1 : PyData.strOk x = true) (h2 : PyData.strOk y = true) : fEq (.str x) (.str y) = some (.bool (decide (x = y))) := by
  unfold fEq
  have e : PyData.eqv (.str x) (.str y) = (x == y) := by simp [PyData.eqv]
  rw [e]
  simp only [PyData.canLay0, h1, h2, PyData.depth, Bool.and_self, Nat.zero_le, decide_true, Bool.or_self, if_true]
  by_cases h : x = y <;> simp [h]
theorem ne_str {x y : Str} (h1 : PyData.strOk x = true) (h2 : PyData.strOk y = true) : fNe (.str x) (.str y) = some (.bool (!decide (x = y))) := by
  unfold fNe
  have e : PyData.eqv (.str x) (.str y) = (x == y) := by simp [PyData.eqv]
  rw [e]
  simp only [PyData.canLay0, h1, h2, PyData.depth, Bool.and_self, Nat.zero_le, decide_true, Bool.or_self, if_true]
  by_cases h : x = y <;> simp [h]
theorem ne_two {x y : Str} (h1 : PyData.strOk x = true) (h2 : PyData.strOk y = true) : fNe (.list [.str x, .str y]) (.list [.str x, .str y]) = some (.bool false) := by
  unfold fNe
  have e : PyData.eqv (.list [.str x, .str y]) (.list [.str x, .str y]) = true := by simp [PyData.eqv, PyData.eqvAll]
  rw [e]
  simp [PyData.canLay0, PyData.canLayAll0, PyData.depth, PyData.depthAll, h1, h2]
end Wf
/-! What the defs of the law compute, and that they do. Printed by wip/gen.py. -/
namespace Wf.Law
open PySem L2 Wf
open PyProof.Rows (envOfC)
def top (i : Nat) : Stmt := PySem.Challenge.pw_windfigure_k73_whole_words_of_weathers.main.body.getD i (.Pass ⟨0, 0, 0, 0⟩)
def clsBody : Stmt → List Stmt
  | .ClassDef _ _ _ b _ _ _ _ _ _ _ => b
  | _ => []
def inCls (i j : Nat) : Stmt := (clsBody (top i)).getD j (.Pass ⟨0, 0, 0, 0⟩)
abbrev s_is_whole : Stmt := top 6
def d_is_whole : He.DefD := ⟨("is_whole", none), "is_whole", "is_whole", defArgs s_is_whole, defBody s_is_whole, defScope s_is_whole, [], []⟩
abbrev n_is_whole : List PySem.Str := ["value"]
abbrev p_is_whole : List PySem.Str := ["value"]
theorem sc_is_whole : FnScope n_is_whole p_is_whole (defScope s_is_whole) := scope_ok (by kernel_rfl)
abbrev s_is_between : Stmt := top 7
def d_is_between : He.DefD := ⟨("is_between", none), "is_between", "is_between", defArgs s_is_between, defBody s_is_between, defScope s_is_between, [], []⟩
abbrev n_is_between : List PySem.Str := ["value", "low", "high"]
abbrev p_is_between : List PySem.Str := ["value", "low", "high"]
theorem sc_is_between : FnScope n_is_between p_is_between (defScope s_is_between) := scope_ok (by kernel_rfl)
abbrev s_is_state : Stmt := top 13
def d_is_state : He.DefD := ⟨("is_state", none), "is_state", "is_state", defArgs s_is_state, defBody s_is_state, defScope s_is_state, [], []⟩
abbrev n_is_state : List PySem.Str := ["value", "many", "index", "pair", "other"]
abbrev p_is_state : List PySem.Str := ["value", "many"]
theorem sc_is_state : FnScope n_is_state p_is_state (defScope s_is_state) := scope_ok (by kernel_rfl)
abbrev s_is_weather : Stmt := top 14
def d_is_weather : He.DefD := ⟨("is_weather", none), "is_weather", "is_weather", defArgs s_is_weather, defBody s_is_weather, defScope s_is_weather, [], []⟩
abbrev n_is_weather : List PySem.Str := ["value", "state"]
abbrev p_is_weather : List PySem.Str := ["value"]
theorem sc_is_weather : FnScope n_is_weather p_is_weather (defScope s_is_weather) := scope_ok (by kernel_rfl)
abbrev s_check_weather : Stmt := top 15
def d_check_weather : He.DefD := ⟨("check_weather", none), "check_weather", "check_weather", defArgs s_check_weather, defBody s_check_weather, defScope s_check_weather, [], []⟩
abbrev n_check_weather : List PySem.Str := ["value"]
abbrev p_check_weather : List PySem.Str := ["value"]
theorem sc_check_weather : FnScope n_check_weather p_check_weather (defScope s_check_weather) := scope_ok (by kernel_rfl)
abbrev s_check_many : Stmt := top 16
def d_check_many : He.DefD := ⟨("check_many", none), "check_many", "check_many", defArgs s_check_many, defBody s_check_many, defScope s_check_many, [], []⟩
abbrev n_check_many : List PySem.Str := ["value"]
abbrev p_check_many : List PySem.Str := ["value"]
theorem sc_check_many : FnScope n_check_many p_check_many (defScope s_check_many) := scope_ok (by kernel_rfl)
abbrev s_count_words : Stmt := top 17
def d_count_words : He.DefD := ⟨("count_words", none), "count_words", "count_words", defArgs s_count_words, defBody s_count_words, defScope s_count_words, [], []⟩
abbrev n_count_words : List PySem.Str := ["weather", "many", "counts", "hour", "state", "wind", "following"]
abbrev p_count_words : List PySem.Str := ["weather", "many"]
theorem sc_count_words : FnScope n_count_words p_count_words (defScope s_count_words) := scope_ok (by kernel_rfl)
abbrev s_words : Stmt := top 18
def d_words : He.DefD := ⟨("words", none), "words", "words", defArgs s_words, defBody s_words, defScope s_words, [], []⟩
abbrev n_words : List PySem.Str := ["weather", "many", "found", "hour", "word", "state", "wind", "following"]
abbrev p_words : List PySem.Str := ["weather", "many"]
theorem sc_words : FnScope n_words p_words (defScope s_words) := scope_ok (by kernel_rfl)
abbrev s_is_word : Stmt := top 19
def d_is_word : He.DefD := ⟨("is_word", none), "is_word", "is_word", defArgs s_is_word, defBody s_is_word, defScope s_is_word, [], []⟩
abbrev n_is_word : List PySem.Str := ["weather", "word", "state", "wind", "steps", "each", "following"]
abbrev p_is_word : List PySem.Str := ["weather", "word"]
theorem sc_is_word : FnScope n_is_word p_is_word (defScope s_is_word) := scope_ok (by kernel_rfl)
abbrev s__law_mug : Stmt := top 21
def d__law_mug : He.DefD := ⟨("_law_mug", none), "_law_mug", "_law_mug", defArgs s__law_mug, defBody s__law_mug, defScope s__law_mug, [], []⟩
abbrev n__law_mug : List PySem.Str := ["_law_script", "_law_lap", "_law_cell", "_law_blend", "_law_each"]
abbrev p__law_mug : List PySem.Str := ["_law_script", "_law_lap"]
theorem sc__law_mug : FnScope n__law_mug p__law_mug (defScope s__law_mug) := scope_ok (by kernel_rfl)
abbrev s__law_dip : Stmt := top 22
def d__law_dip : He.DefD := ⟨("_law_dip", none), "_law_dip", "_law_dip", defArgs s__law_dip, defBody s__law_dip, defScope s__law_dip, [], []⟩
abbrev n__law_dip : List PySem.Str := ["_law_mug_here", "_law_size", "_law_digit", "_law_factor"]
abbrev p__law_dip : List PySem.Str := ["_law_mug_here", "_law_size"]
theorem sc__law_dip : FnScope n__law_dip p__law_dip (defScope s__law_dip) := scope_ok (by kernel_rfl)
abbrev s__law_pick : Stmt := top 23
def d__law_pick : He.DefD := ⟨("_law_pick", none), "_law_pick", "_law_pick", defArgs s__law_pick, defBody s__law_pick, defScope s__law_pick, [], []⟩
abbrev n__law_pick : List PySem.Str := ["_law_mug_here", "_law_some"]
abbrev p__law_pick : List PySem.Str := ["_law_mug_here", "_law_some"]
theorem sc__law_pick : FnScope n__law_pick p__law_pick (defScope s__law_pick) := scope_ok (by kernel_rfl)
abbrev s__law_sky : Stmt := top 24
def d__law_sky : He.DefD := ⟨("_law_sky", none), "_law_sky", "_law_sky", defArgs s__law_sky, defBody s__law_sky, defScope s__law_sky, [], []⟩
abbrev n__law_sky : List PySem.Str := ["_law_mug_here", "_law_most", "_law_many", "_law_found", "_law_lap", "_law_pool", "_law_row", "_law_turn"]
abbrev p__law_sky : List PySem.Str := ["_law_mug_here", "_law_most"]
theorem sc__law_sky : FnScope n__law_sky p__law_sky (defScope s__law_sky) := scope_ok (by kernel_rfl)
abbrev s__law_after : Stmt := top 25
def d__law_after : He.DefD := ⟨("_law_after", none), "_law_after", "_law_after", defArgs s__law_after, defBody s__law_after, defScope s__law_after, [], []⟩
abbrev n__law_after : List PySem.Str := ["_law_sky_here", "_law_state", "_law_wind", "_law_each", "_law_goal"]
abbrev p__law_after : List PySem.Str := ["_law_sky_here", "_law_state", "_law_wind"]
theorem sc__law_after : FnScope n__law_after p__law_after (defScope s__law_after) := scope_ok (by kernel_rfl)
abbrev s__law_is_int : Stmt := top 26
def d__law_is_int : He.DefD := ⟨("_law_is_int", none), "_law_is_int", "_law_is_int", defArgs s__law_is_int, defBody s__law_is_int, defScope s__law_is_int, [], []⟩
abbrev n__law_is_int : List PySem.Str := ["_law_value"]
abbrev p__law_is_int : List PySem.Str := ["_law_value"]
theorem sc__law_is_int : FnScope n__law_is_int p__law_is_int (defScope s__law_is_int) := scope_ok (by kernel_rfl)
abbrev s__law_follows : Stmt := top 27
def d__law_follows : He.DefD := ⟨("_law_follows", none), "_law_follows", "_law_follows", defArgs s__law_follows, defBody s__law_follows, defScope s__law_follows, [], []⟩
abbrev n__law_follows : List PySem.Str := ["_law_sky_here", "_law_thing", "_law_state", "_law_wind"]
abbrev p__law_follows : List PySem.Str := ["_law_sky_here", "_law_thing"]
theorem sc__law_follows : FnScope n__law_follows p__law_follows (defScope s__law_follows) := scope_ok (by kernel_rfl)
abbrev s__law_walked : Stmt := top 28
def d__law_walked : He.DefD := ⟨("_law_walked", none), "_law_walked", "_law_walked", defArgs s__law_walked, defBody s__law_walked, defScope s__law_walked, [], []⟩
abbrev n__law_walked : List PySem.Str := ["_law_mug_here", "_law_sky_here", "_law_many", "_law_word", "_law_state", "_law_lap", "_law_wind"]
abbrev p__law_walked : List PySem.Str := ["_law_mug_here", "_law_sky_here", "_law_many"]
theorem sc__law_walked : FnScope n__law_walked p__law_walked (defScope s__law_walked) := scope_ok (by kernel_rfl)
abbrev s__law_odd : Stmt := top 29
def d__law_odd : He.DefD := ⟨("_law_odd", none), "_law_odd", "_law_odd", defArgs s__law_odd, defBody s__law_odd, defScope s__law_odd, [], []⟩
abbrev n__law_odd : List PySem.Str := ["_law_mug_here", "_law_some"]
abbrev p__law_odd : List PySem.Str := ["_law_mug_here"]
theorem sc__law_odd : FnScope n__law_odd p__law_odd (defScope s__law_odd) := scope_ok (by kernel_rfl)
abbrev s__law_count : Stmt := top 30
def d__law_count : He.DefD := ⟨("_law_count", none), "_law_count", "_law_count", defArgs s__law_count, defBody s__law_count, defScope s__law_count, [], []⟩
abbrev n__law_count : List PySem.Str := ["_law_sky_here", "_law_many", "_law_rates", "_law_lap", "_law_row", "_law_wind", "_law_goal"]
abbrev p__law_count : List PySem.Str := ["_law_sky_here", "_law_many"]
theorem sc__law_count : FnScope n__law_count p__law_count (defScope s__law_count) := scope_ok (by kernel_rfl)
abbrev s__law_walks : Stmt := top 31
def d__law_walks : He.DefD := ⟨("_law_walks", none), "_law_walks", "_law_walks", defArgs s__law_walks, defBody s__law_walks, defScope s__law_walks, [], []⟩
abbrev n__law_walks : List PySem.Str := ["_law_sky_here", "_law_many", "_law_rows", "_law_lap", "_law_after_here", "_law_word", "_law_state", "_law_duo", "_law_row"]
abbrev p__law_walks : List PySem.Str := ["_law_sky_here", "_law_many"]
theorem sc__law_walks : FnScope n__law_walks p__law_walks (defScope s__law_walks) := scope_ok (by kernel_rfl)
abbrev s__law_told : Stmt := top 32
def d__law_told : He.DefD := ⟨("_law_told", none), "_law_told", "_law_told", defArgs s__law_told, defBody s__law_told, defScope s__law_told, [], []⟩
abbrev n__law_told : List PySem.Str := ["_law_sky_here", "_law_many", "raised"]
abbrev p__law_told : List PySem.Str := ["_law_sky_here", "_law_many"]
theorem sc__law_told : FnScope n__law_told p__law_told (defScope s__law_told) := scope_ok (by kernel_rfl)
abbrev s__law_bent : Stmt := top 33
def d__law_bent : He.DefD := ⟨("_law_bent", none), "_law_bent", "_law_bent", defArgs s__law_bent, defBody s__law_bent, defScope s__law_bent, [], []⟩
abbrev n__law_bent : List PySem.Str := ["_law_mug_here", "_law_word", "_law_way", "_law_at", "_law_thing"]
abbrev p__law_bent : List PySem.Str := ["_law_mug_here", "_law_word"]
theorem sc__law_bent : FnScope n__law_bent p__law_bent (defScope s__law_bent) := scope_ok (by kernel_rfl)
abbrev s__law_right : Stmt := top 34
def d__law_right : He.DefD := ⟨("_law_right", none), "_law_right", "_law_right", defArgs s__law_right, defBody s__law_right, defScope s__law_right, [], []⟩
abbrev n__law_right : List PySem.Str := ["_law_mug_here", "_law_sky_here", "_law_many", "_law_count_here", "_law_due", "_law_short", "_law_word", "_law_some", "_law_told_here", "_law_each"]
abbrev p__law_right : List PySem.Str := ["_law_mug_here"]
theorem sc__law_right : FnScope n__law_right p__law_right (defScope s__law_right) := scope_ok (by kernel_rfl)
abbrev s_law : Stmt := top 35
def d_law : He.DefD := ⟨("law", none), "law", "law", defArgs s_law, defBody s_law, defScope s_law, [], []⟩
abbrev n_law : List PySem.Str := ["_law_script", "_law_lap"]
abbrev p_law : List PySem.Str := ["_law_script"]
theorem sc_law : FnScope n_law p_law (defScope s_law) := scope_ok (by kernel_rfl)
abbrev si_InvalidNumber : Stmt := inCls 3 0
def di_InvalidNumber : He.DefD := ⟨("InvalidNumber", some "__init__"), "__init__", "InvalidNumber.__init__", defArgs si_InvalidNumber, defBody si_InvalidNumber, defScope si_InvalidNumber, [], []⟩
abbrev si_InvalidWeather : Stmt := inCls 2 0
def di_InvalidWeather : He.DefD := ⟨("InvalidWeather", some "__init__"), "__init__", "InvalidWeather.__init__", defArgs si_InvalidWeather, defBody si_InvalidWeather, defScope si_InvalidWeather, [], []⟩
abbrev si_TooMany : Stmt := inCls 4 0
def di_TooMany : He.DefD := ⟨("TooMany", some "__init__"), "__init__", "TooMany.__init__", defArgs si_TooMany, defBody si_TooMany, defScope si_TooMany, [], []⟩
def fn : List He.DefD := [d_is_whole, d_is_between, d_is_state, d_is_weather, d_check_weather, d_check_many, d_count_words, d_words, d_is_word, d__law_mug, d__law_dip, d__law_pick, d__law_sky, d__law_after, d__law_is_int, d__law_follows, d__law_walked, d__law_odd, d__law_count, d__law_walks, d__law_told, d__law_bent, d__law_right, d_law, di_InvalidNumber, di_InvalidWeather, di_TooMany]
def fc : List Fc := [.fa (.free "isinstance"), .fa (.free "int"), .fa (.free "bool"), .fa (.free "tuple"), .fa (.free "len"), .fa (.int "MOST_WINDS" 4), .fa (.free "enumerate"), .fa (.int "MOST_STATES" 3), .fa (.free "all"), .fa (.int "MOST_HOURS" 6), .fa (.free "range"), .fa (.free "sum"), .fa (.int "MOST_WORDS" 300), .fa (.free "sorted"), .fa (.free "abs"), .fa (.free "divmod"), .fa (.free "repr"), .exc "TooMany" "given", .fa (.exm "TooMany" "TooMany" true), .exc "InvalidWeather" "given", .fa (.exm "InvalidWeather" "TooMany" false), .exc "InvalidNumber" "given", .fa (.exm "InvalidNumber" "TooMany" false), .fa (.free "list"), .fa (.free "min"), .fa (.free "max"), .fa (.glo "is_whole"), .fa (.glo "is_between"), .fa (.glo "is_state"), .fa (.glo "is_weather"), .fa (.glo "check_weather"), .fa (.glo "check_many"), .fa (.glo "count_words"), .fa (.glo "words"), .fa (.glo "is_word"), .fa (.glo "_law_mug"), .fa (.glo "_law_dip"), .fa (.glo "_law_pick"), .fa (.glo "_law_sky"), .fa (.glo "_law_after"), .fa (.glo "_law_is_int"), .fa (.glo "_law_follows"), .fa (.glo "_law_walked"), .fa (.glo "_law_odd"), .fa (.glo "_law_count"), .fa (.glo "_law_walks"), .fa (.glo "_law_told"), .fa (.glo "_law_bent"), .fa (.glo "_law_right"), .fa (.glo "law")]
section
variable {P : Program} {w : World} {K : PySem.W.Frag} {mg : PySem.Str → Option Value} {base : Heap}
theorem x_InvalidNumber (S : Says fc fn K mg) : ExX P w K mg base "InvalidNumber" "given" := by
  obtain ⟨fd, F⟩ := S.defn 24 (d := di_InvalidNumber) rfl
  exact exc_of S 21 rfl F (scope_ok (by kernel_rfl)) (fun _ _ _ _ _ _ us hl => match us, hl with | [_, _], _ => rfl) fun cdv A outer s H E => pss_one (ps_ost (pe_var (i := 0) rfl (.inl rfl) rfl rfl) (pe_var (i := 1) rfl (.inl rfl) rfl rfl))
theorem x_InvalidWeather (S : Says fc fn K mg) : ExX P w K mg base "InvalidWeather" "given" := by
  obtain ⟨fd, F⟩ := S.defn 25 (d := di_InvalidWeather) rfl
  exact exc_of S 19 rfl F (scope_ok (by kernel_rfl)) (fun _ _ _ _ _ _ us hl => match us, hl with | [_, _], _ => rfl) fun cdv A outer s H E => pss_one (ps_ost (pe_var (i := 0) rfl (.inl rfl) rfl rfl) (pe_var (i := 1) rfl (.inl rfl) rfl rfl))
theorem x_TooMany (S : Says fc fn K mg) : ExX P w K mg base "TooMany" "given" := by
  obtain ⟨fd, F⟩ := S.defn 26 (d := di_TooMany) rfl
  exact exc_of S 17 rfl F (scope_ok (by kernel_rfl)) (fun _ _ _ _ _ _ us hl => match us, hl with | [_, _], _ => rfl) fun cdv A outer s H E => pss_one (ps_ost (pe_var (i := 0) rfl (.inl rfl) rfl rfl) (pe_var (i := 1) rfl (.inl rfl) rfl rfl))
noncomputable def fm_is_whole : FM := bodyM 1 (sRet (eAnd (eIsi "int" (eVar 0)) (eNot (eIsi "bool" (eVar 0)))))
theorem ok_is_whole (S : Says fc fn K mg) : FnX P w K mg base 1 false "is_whole" p_is_whole fm_is_whole := by
  obtain ⟨fd, F⟩ := S.defn 0 (d := d_is_whole) rfl
  refine fnX_of (k := 0) F sc_is_whole (S.glo 26 rfl) (fun _ _ _ _ _ _ us hl => match us, hl with | [_], _ => rfl) (fun h => nomatch h) fun cdv A outer s H E hr gd => ?_
  exact (dss_one (ds_ret (de_and (bx_isi (S.free 0 rfl) (S.free 1 rfl) PyProof.Rows.boot_int (de_var (i := 0) rfl (.inl rfl) rfl rfl) rfl rfl (by decide) rfl rfl) (de_one (de_not (bx_isi (S.free 0 rfl) (S.free 2 rfl) PyProof.Rows.boot_bool (de_var (i := 0) rfl (.inl rfl) rfl rfl) rfl rfl (by decide) rfl rfl))))))
noncomputable def fm_is_between : FM := bodyM 3 (sRet (eAnd (eFn fm_is_whole (bCons (eVar 0) bNil)) (eAnd (eOp2 fLe (eVar 1) (eVar 0)) (eOp2 fLe (eVar 0) (eVar 2)))))
theorem ok_is_between (S : Says fc fn K mg) : FnX P w K mg base 2 false "is_between" p_is_between fm_is_between := by
  have c_is_whole := ok_is_whole (P := P) (w := w) (base := base) S
  obtain ⟨fd, F⟩ := S.defn 1 (d := d_is_between) rfl
  refine fnX_of (k := 1) F sc_is_between (S.glo 27 rfl) (fun _ _ _ _ _ _ us hl => match us, hl with | [_, _, _], _ => rfl) (fun h => nomatch h) fun cdv A outer s H E hr gd => ?_
  exact (dss_one (ds_ret (de_and (dx_fn c_is_whole hr (by decide) gd (takes_of rfl rfl rfl rfl) (db_cons (de_var (i := 0) rfl (.inl rfl) rfl rfl) db_nil rfl) (nom_cons nom_nil) rfl rfl rfl rfl rfl) (de_and (xLe (de_var (i := 1) rfl (.inl rfl) rfl rfl) (de_var (i := 0) rfl (.inl rfl) rfl rfl)) (de_one (xLe (de_var (i := 0) rfl (.inl rfl) rfl rfl) (de_var (i := 2) rfl (.inl rfl) rfl rfl)))))))
noncomputable def fm_is_state : FM := bodyM 5 (sSeq (sIf (mOr (mNot (mTru (eIsi "tuple" (eVar 0)))) (mNot (mT (eChain fLe fLe (eC (.int 1)) (eCall fLen (aCons (eVar 0) aNil)) (eC (.int 4)))))) (sRet (eC (.bool false))) sPass) (sSeq (sFor (iEnum (aCons (eVar 0) aNil)) (mTup 2 (mCons (mName 2) (mCons (mName 3) mNil))) (sSeq (sIf (mOr (mNot (mTru (eIsi "tuple" (eVar 3)))) (mOr (mT (eOp2 fNe (eCall fLen (aCons (eVar 3) aNil)) (eC (.int 2)))) (mNot (mTru (eFn fm_is_between (bCons (eOp2 fIx (eVar 3) (eC (.int 0))) (bCons (eC (.int 0)) (bCons (eOp2 fSub (eC (.int 4)) (eC (.int 1))) bNil)))))))) (sRet (eC (.bool false))) sPass) (sIf (mOr (mNot (mTru (eFn fm_is_between (bCons (eOp2 fIx (eVar 3) (eC (.int 1))) (bCons (eC (.int 0)) (bCons (eOp2 fSub (eVar 1) (eC (.int 1))) bNil)))))) (mT (eOp2 (fIn false) (eOp2 fIx (eVar 3) (eC (.int 0))) (eComp [4] (iSeq (eCut (eVar 0) oNo (oSo (eVar 2)))) (mName 4) mYes (eOp2 fIx (eVar 4) (eC (.int 0))))))) (sRet (eC (.bool false))) sPass))) (sRet (eC (.bool true)))))
theorem ok_is_state (S : Says fc fn K mg) : FnX P w K mg base 3 false "is_state" p_is_state fm_is_state := by
  have c_is_between := ok_is_between (P := P) (w := w) (base := base) S
  obtain ⟨fd, F⟩ := S.defn 2 (d := d_is_state) rfl
  refine fnX_of (k := 2) F sc_is_state (S.glo 28 rfl) (fun _ _ _ _ _ _ us hl => match us, hl with | [_, _], _ => rfl) (fun h => nomatch h) fun cdv A outer s H E hr gd => ?_
  exact (dss_cons (ds_if (dt_of (dw_or (dt_not (dt_truth (bx_isi (S.free 0 rfl) (S.free 3 rfl) PyProof.Rows.boot_tuple (de_var (i := 0) rfl (.inl rfl) rfl rfl) rfl rfl (by decide) rfl rfl) (fun _ => rfl))) (dw_or1 (dt_not (dt_chain op_le op_le o2_le o2_le de_int (bx_len (S.free 4 rfl) (da_cons (de_var (i := 0) rfl (.inl rfl) rfl rfl) da_nil rfl) rfl rfl rfl) (de_globI rfl (S.int 5 rfl) rfl) rfl))))) (dss_one (ds_ret de_bl)) dss_nil) (dss_cons (ds_for (passes_of rfl) rfl (di_enum rfl (S.free 6 rfl) (da_cons (de_var (i := 0) rfl (.inl rfl) rfl rfl) da_nil rfl) rfl) (dg_tup rfl (dgs_cons (dg_name (i := 2) sc_is_state.nd rfl (.inl rfl) (.inr rfl)) (dgs_cons (dg_name (i := 3) sc_is_state.nd rfl (.inl rfl) (.inr rfl)) dgs_nil rfl) rfl) rfl rfl) (dss_cons (ds_if (dt_of (dw_or (dt_not (dt_truth (bx_isi (S.free 0 rfl) (S.free 3 rfl) PyProof.Rows.boot_tuple (de_var (i := 3) rfl (.inl rfl) rfl rfl) rfl rfl (by decide) rfl rfl) (fun _ => rfl))) (dw_or (tNe hr.units (bx_len (S.free 4 rfl) (da_cons (de_var (i := 3) rfl (.inl rfl) rfl rfl) da_nil rfl) rfl rfl rfl) de_int) (dw_or1 (dt_not (dt_truth (dx_fn c_is_between hr (by decide) gd (takes_of rfl rfl rfl rfl) (db_cons (de_ix (de_var (i := 3) rfl (.inl rfl) rfl rfl) de_int (fun _ _ => rfl)) (db_cons de_int (db_cons (xSub (de_globI rfl (S.int 5 rfl) rfl) de_int) db_nil rfl) rfl) rfl) (nom_cons (nom_cons (nom_cons nom_nil))) rfl rfl rfl rfl rfl) (fun _ => rfl))))))) (dss_one (ds_ret de_bl)) dss_nil) (dss_one (ds_if (dt_of (dw_or (dt_not (dt_truth (dx_fn c_is_between hr (by decide) gd (takes_of rfl rfl rfl rfl) (db_cons (de_ix (de_var (i := 3) rfl (.inl rfl) rfl rfl) de_int (fun _ _ => rfl)) (db_cons de_int (db_cons (xSub (de_var (i := 1) rfl (.inl rfl) rfl rfl) de_int) db_nil rfl) rfl) rfl) (nom_cons (nom_cons (nom_cons nom_nil))) rfl rfl rfl rfl rfl) (fun _ => rfl))) (dw_or1 (tIn (room65 hr) rfl (de_ix (de_var (i := 3) rfl (.inl rfl) rfl rfl) de_int (fun _ _ => rfl)) (de_comp (own := [("other", 4)]) rfl sc_is_state.nd (di_seq (de_cut (de_var (i := 0) rfl (.inl rfl) rfl rfl) do_no (do_so (de_var (i := 2) rfl (.inl rfl) rfl rfl)))) (blk_ok (by kernel_rfl)) (by decide) (fun _ _ _ _ _ => (dg_name (i := 4) sc_is_state.nd rfl (.inl rfl) (.inr rfl))) (fun _ _ _ _ _ => dts_nil) (fun _ _ _ _ _ => (de_ix (de_var (i := 4) rfl (.inl rfl) rfl rfl) de_int (fun _ _ => rfl))) (fun _ => rfl)))))) (dss_one (ds_ret de_bl)) dss_nil))) (fun _ => rfl)) (dss_one (ds_ret de_bl))))
noncomputable def fm_is_weather : FM := bodyM 2 (sSeq (sIf (mOr (mNot (mTru (eIsi "tuple" (eVar 0)))) (mNot (mT (eChain fLe fLe (eC (.int 1)) (eCall fLen (aCons (eVar 0) aNil)) (eC (.int 3)))))) (sRet (eC (.bool false))) sPass) (sRet (eCall fAll (aCons (eComp [1] (iSeq (eVar 0)) (mName 1) mYes (eFn fm_is_state (bCons (eVar 1) (bCons (eCall fLen (aCons (eVar 0) aNil)) bNil)))) aNil))))
theorem ok_is_weather (S : Says fc fn K mg) : FnX P w K mg base 4 false "is_weather" p_is_weather fm_is_weather := by
  have c_is_state := ok_is_state (P := P) (w := w) (base := base) S
  obtain ⟨fd, F⟩ := S.defn 3 (d := d_is_weather) rfl
  refine fnX_of (k := 3) F sc_is_weather (S.glo 29 rfl) (fun _ _ _ _ _ _ us hl => match us, hl with | [_], _ => rfl) (fun h => nomatch h) fun cdv A outer s H E hr gd => ?_
  exact (dss_cons (ds_if (dt_of (dw_or (dt_not (dt_truth (bx_isi (S.free 0 rfl) (S.free 3 rfl) PyProof.Rows.boot_tuple (de_var (i := 0) rfl (.inr (.inl rfl)) rfl rfl) rfl rfl (by decide) rfl rfl) (fun _ => rfl))) (dw_or1 (dt_not (dt_chain op_le op_le o2_le o2_le de_int (bx_len (S.free 4 rfl) (da_cons (de_var (i := 0) rfl (.inr (.inl rfl)) rfl rfl) da_nil rfl) rfl rfl rfl) (de_globI rfl (S.int 7 rfl) rfl) rfl))))) (dss_one (ds_ret de_bl)) dss_nil) (dss_one (ds_ret (bx_all rfl (S.free 8 rfl) (da_cons (de_comp (own := [("state", 1)]) rfl sc_is_weather.nd (di_seq (de_var (i := 0) rfl (.inr (.inl rfl)) rfl rfl)) (blk_ok (by kernel_rfl)) (by decide) (fun _ _ _ _ _ => (dg_name (i := 1) sc_is_weather.nd rfl (.inl rfl) (.inr rfl))) (fun _ _ _ _ _ => dts_nil) (fun _ _ _ _ _ => (dx_fn c_is_state hr (by decide) gd takes0 (db_cons (de_var (i := 1) rfl (.inl rfl) rfl rfl) (db_cons (bx_len (S.free 4 rfl) (da_cons (de_var (i := 0) rfl (.inr (.inl rfl)) rfl rfl) da_nil rfl) rfl rfl rfl) db_nil rfl) rfl) (nom_cons (nom_cons nom_nil)) rfl rfl rfl rfl rfl)) (fun _ => rfl)) da_nil rfl) rfl rfl rfl))))
noncomputable def fm_check_weather : FM := bodyM 1 (sIf (mNot (mTru (eFn fm_is_weather (bCons (eVar 0) bNil)))) (sRaise "InvalidWeather" "given" (eVar 0)) sPass)
theorem ok_check_weather (S : Says fc fn K mg) : FnX P w K mg base 5 false "check_weather" p_check_weather fm_check_weather := by
  have c_is_weather := ok_is_weather (P := P) (w := w) (base := base) S
  have x_InvalidWeather := x_InvalidWeather (P := P) (w := w) (base := base) S
  obtain ⟨fd, F⟩ := S.defn 4 (d := d_check_weather) rfl
  refine fnX_of (k := 4) F sc_check_weather (S.glo 30 rfl) (fun _ _ _ _ _ _ us hl => match us, hl with | [_], _ => rfl) (fun h => nomatch h) fun cdv A outer s H E hr gd => ?_
  exact (dss_one (ds_if (dt_not (dt_truth (dx_fn c_is_weather hr (by decide) gd (takes_of rfl rfl rfl rfl) (db_cons (de_var (i := 0) rfl (.inl rfl) rfl rfl) db_nil rfl) (nom_cons nom_nil) rfl rfl rfl rfl rfl) (fun _ => rfl))) (dss_one (rx_raise x_InvalidWeather hr (by decide) (takes_of rfl rfl rfl rfl) (de_var (i := 0) rfl (.inl rfl) rfl rfl) rfl rfl rfl rfl)) dss_nil))
noncomputable def fm_check_many : FM := bodyM 1 (sIf (mNot (mTru (eFn fm_is_between (bCons (eVar 0) (bCons (eC (.int 1)) (bCons (eC (.int 6)) bNil)))))) (sRaise "InvalidNumber" "given" (eVar 0)) sPass)
theorem ok_check_many (S : Says fc fn K mg) : FnX P w K mg base 3 false "check_many" p_check_many fm_check_many := by
  have c_is_between := ok_is_between (P := P) (w := w) (base := base) S
  have x_InvalidNumber := x_InvalidNumber (P := P) (w := w) (base := base) S
  obtain ⟨fd, F⟩ := S.defn 5 (d := d_check_many) rfl
  refine fnX_of (k := 2) F sc_check_many (S.glo 31 rfl) (fun _ _ _ _ _ _ us hl => match us, hl with | [_], _ => rfl) (fun h => nomatch h) fun cdv A outer s H E hr gd => ?_
  exact (dss_one (ds_if (dt_not (dt_truth (dx_fn c_is_between hr (by decide) gd (takes_of rfl rfl rfl rfl) (db_cons (de_var (i := 0) rfl (.inl rfl) rfl rfl) (db_cons de_int (db_cons (de_globI rfl (S.int 9 rfl) rfl) db_nil rfl) rfl) rfl) (nom_cons (nom_cons (nom_cons nom_nil))) rfl rfl rfl rfl rfl) (fun _ => rfl))) (dss_one (rx_raise x_InvalidNumber hr (by decide) (takes_of rfl rfl rfl rfl) (de_var (i := 0) rfl (.inl rfl) rfl rfl) rfl rfl rfl rfl)) dss_nil))
noncomputable def fm_count_words : FM := bodyM 7 (sSeq (sSet 2 (eOp2 fMul (eLst (aCons (eC (.int 1)) aNil)) (eCall fLen (aCons (eVar 0) aNil)))) (sSeq (sFor (iRange1 (aCons (eVar 1) aNil)) (mName 3) (sSet 2 (eComp [4] (iSeq (eVar 0)) (mName 4) mYes (eCall fSum (aCons (eComp [5, 6] (iSeq (eVar 4)) (mTup 2 (mCons (mName 5) (mCons (mName 6) mNil))) mYes (eOp2 fIx (eVar 2) (eVar 6))) aNil))))) (sRet (eOp2 fIx (eVar 2) (eC (.int 0))))))
theorem ok_count_words (S : Says fc fn K mg) : FnX P w K mg base 1 false "count_words" p_count_words fm_count_words := by
  obtain ⟨fd, F⟩ := S.defn 6 (d := d_count_words) rfl
  refine fnX_of (k := 0) F sc_count_words (S.glo 32 rfl) (fun _ _ _ _ _ _ us hl => match us, hl with | [_, _], _ => rfl) (fun h => nomatch h) fun cdv A outer s H E hr gd => ?_
  exact (dss_cons (ds_set (i := 2) sc_count_words.nd rfl (.inr rfl) (xMul (de_lst (da_cons de_int da_nil rfl)) (bx_len (S.free 4 rfl) (da_cons (de_var (i := 0) rfl (.inl rfl) rfl rfl) da_nil rfl) rfl rfl rfl)) rfl (.inl rfl)) (dss_cons (ds_for (passes_of rfl) rfl (di_range1 rfl (S.free 10 rfl) (da_cons (de_var (i := 1) rfl (.inl rfl) rfl rfl) da_nil rfl) rfl) (dg_name (i := 3) sc_count_words.nd rfl (.inl rfl) (.inr rfl)) (dss_one (ds_set (i := 2) sc_count_words.nd rfl (.inr rfl) (de_comp (own := [("state", 4)]) rfl sc_count_words.nd (di_seq (de_var (i := 0) rfl (.inl rfl) rfl rfl)) (blk_ok (by kernel_rfl)) (by decide) (fun _ _ _ _ _ => (dg_name (i := 4) sc_count_words.nd rfl (.inl rfl) (.inr rfl))) (fun _ _ _ _ _ => dts_nil) (fun _ _ _ _ _ => (bx_sum rfl (S.free 11 rfl) (da_cons (de_comp (own := [("wind", 5), ("following", 6)]) rfl sc_count_words.nd (di_seq (de_var (i := 4) rfl (.inl rfl) rfl rfl)) (blk_ok (by kernel_rfl)) (by decide) (fun _ _ _ _ _ => (dg_tup rfl (dgs_cons (dg_name (i := 5) sc_count_words.nd rfl (.inl rfl) (.inr rfl)) (dgs_cons (dg_name (i := 6) sc_count_words.nd rfl (.inl rfl) (.inr rfl)) dgs_nil rfl) rfl) rfl rfl)) (fun _ _ _ _ _ => dts_nil) (fun _ _ _ _ _ => (de_ix (de_var (i := 2) rfl (.inr (.inl rfl)) rfl rfl) (de_var (i := 6) rfl (.inl rfl) rfl rfl) (fun _ _ => rfl))) (fun _ => rfl)) da_nil rfl) rfl rfl rfl)) (fun _ => rfl)) rfl (.inl rfl))) (fun _ => rfl)) (dss_one (ds_ret (de_ix (de_var (i := 2) rfl (.inr (.inl rfl)) rfl rfl) de_int (fun _ _ => rfl))))))
noncomputable def fm_words : FM := bodyM 8 (sSeq (sDrop (eFn fm_check_weather (bCons (eVar 0) bNil))) (sSeq (sDrop (eFn fm_check_many (bCons (eVar 1) bNil))) (sSeq (sIf (mT (eOp2 fGt (eFn fm_count_words (bCons (eVar 0) (bCons (eVar 1) bNil))) (eC (.int 300)))) (sRaise "TooMany" "given" (eFn fm_count_words (bCons (eVar 0) (bCons (eVar 1) bNil)))) sPass) (sSeq (sSet 2 (eLst (aCons (eTup (aCons (eTup aNil) (aCons (eC (.int 0)) aNil))) aNil))) (sSeq (sFor (iRange1 (aCons (eVar 1) aNil)) (mName 3) (sSet 2 (eComp2 [4, 5, 6, 7] (iSeq (eVar 2)) (mTup 2 (mCons (mName 4) (mCons (mName 5) mNil))) mYes [6, 7] (iSeq (eOp2 fIx (eVar 0) (eVar 5))) (mTup 2 (mCons (mName 6) (mCons (mName 7) mNil))) mYes (eTup (aCons (eTup (aStar (eVar 4) (aCons (eVar 6) aNil))) (aCons (eVar 7) aNil)))))) (sRet (eCall fTuple (aCons (eCall fSort (aCons (eComp [4, 5] (iSeq (eVar 2)) (mTup 2 (mCons (mName 4) (mCons (mName 5) mNil))) mYes (eVar 4)) aNil)) aNil))))))))
theorem ok_words (S : Says fc fn K mg) : FnX P w K mg base 6 true "words" p_words fm_words := by
  have c_check_many := ok_check_many (P := P) (w := w) (base := base) S
  have c_check_weather := ok_check_weather (P := P) (w := w) (base := base) S
  have c_count_words := ok_count_words (P := P) (w := w) (base := base) S
  have x_TooMany := x_TooMany (P := P) (w := w) (base := base) S
  obtain ⟨fd, F⟩ := S.defn 7 (d := d_words) rfl
  refine fnX_of (k := 5) F sc_words (S.glo 33 rfl) (fun _ _ _ _ _ _ us hl => match us, hl with | [_, _], _ => rfl) (fun _ _ _ _ _ _ _ us hl => match us, hl with | [_, _], _ => rfl) fun cdv A outer s H E hr gd => ?_
  exact (dss_cons (ds_drop (dx_fn c_check_weather hr (by decide) gd (takes_of rfl rfl rfl rfl) (db_cons (de_var (i := 0) rfl (.inr (.inl rfl)) rfl rfl) db_nil rfl) (nom_cons nom_nil) rfl rfl rfl rfl rfl) rfl) (dss_cons (ds_drop (dx_fn c_check_many hr (by decide) gd (takes_of rfl rfl rfl rfl) (db_cons (de_var (i := 1) rfl (.inl rfl) rfl rfl) db_nil rfl) (nom_cons nom_nil) rfl rfl rfl rfl rfl) rfl) (dss_cons (ds_if (tGt (dx_fn c_count_words hr (by decide) gd (takes_of rfl rfl rfl rfl) (db_cons (de_var (i := 0) rfl (.inr (.inl rfl)) rfl rfl) (db_cons (de_var (i := 1) rfl (.inl rfl) rfl rfl) db_nil rfl) rfl) (nom_cons (nom_cons nom_nil)) rfl rfl rfl rfl rfl) (de_globI rfl (S.int 12 rfl) rfl)) (dss_one (rx_raise x_TooMany hr (by decide) (takes_of rfl rfl rfl rfl) (dx_fn c_count_words hr (by decide) gd (takes_of rfl rfl rfl rfl) (db_cons (de_var (i := 0) rfl (.inr (.inl rfl)) rfl rfl) (db_cons (de_var (i := 1) rfl (.inl rfl) rfl rfl) db_nil rfl) rfl) (nom_cons (nom_cons nom_nil)) rfl rfl rfl rfl rfl) rfl rfl rfl rfl)) dss_nil) (dss_cons (ds_set (i := 2) sc_words.nd rfl (.inl rfl) (de_lst (da_cons (de_tup (da_cons (de_tup da_nil) (da_cons de_int da_nil rfl) rfl)) da_nil rfl)) rfl (.inr rfl)) (dss_cons (ds_for (passes_of rfl) rfl (di_range1 rfl (S.free 10 rfl) (da_cons (de_var (i := 1) rfl (.inl rfl) rfl rfl) da_nil rfl) rfl) (dg_name (i := 3) sc_words.nd rfl (.inl rfl) (.inr rfl)) (dss_one (ds_comp2 (i := 2) (own := [("word", 4), ("state", 5), ("wind", 6), ("following", 7)]) (vs1 := [6, 7]) rfl sc_words.nd rfl rfl rfl (di_seq (de_var (i := 2) rfl (.inl rfl) rfl rfl)) (blk_ok (by kernel_rfl)) (by decide) (by decide) (by decide) (fun _ _ _ _ _ => (dg_tup rfl (dgs_cons (dg_name (i := 4) sc_words.nd rfl (.inl rfl) (.inr rfl)) (dgs_cons (dg_name (i := 5) sc_words.nd rfl (.inl rfl) (.inr rfl)) dgs_nil rfl) rfl) rfl rfl)) (fun _ _ _ _ _ => dts_nil) (fun _ _ _ _ _ => (di_seq (de_ix (de_var (i := 0) rfl (.inr (.inl rfl)) rfl rfl) (de_var (i := 5) rfl (.inl rfl) rfl rfl) (fun _ _ => rfl)))) (fun _ _ _ _ _ => (dg_tup rfl (dgs_cons (dg_name (i := 6) sc_words.nd rfl (.inl rfl) (.inr rfl)) (dgs_cons (dg_name (i := 7) sc_words.nd rfl (.inl rfl) (.inr rfl)) dgs_nil rfl) rfl) rfl rfl)) (fun _ _ _ _ _ => dts_nil) (fun _ _ _ _ _ => (de_tup (da_cons (de_tup (da_star (de_var (i := 4) rfl (.inl rfl) rfl rfl) (da_cons (de_var (i := 6) rfl (.inl rfl) rfl rfl) da_nil rfl) rfl)) (da_cons (de_var (i := 7) rfl (.inl rfl) rfl rfl) da_nil rfl) rfl))) (fun _ => rfl) (fun _ _ => rfl))) (fun _ => rfl)) (dss_one (ds_ret (bx_tuple (S.free 3 rfl) (da_cons (bx_sorted (S.free 13 rfl) (da_cons (de_comp (own := [("word", 4), ("state", 5)]) rfl sc_words.nd (di_seq (de_var (i := 2) rfl (.inl rfl) rfl rfl)) (blk_ok (by kernel_rfl)) (by decide) (fun _ _ _ _ _ => (dg_tup rfl (dgs_cons (dg_name (i := 4) sc_words.nd rfl (.inl rfl) (.inr rfl)) (dgs_cons (dg_name (i := 5) sc_words.nd rfl (.inl rfl) (.inr rfl)) dgs_nil rfl) rfl) rfl rfl)) (fun _ _ _ _ _ => dts_nil) (fun _ _ _ _ _ => (de_var (i := 4) rfl (.inl rfl) rfl rfl)) (fun _ => rfl)) da_nil rfl) rfl rfl rfl) da_nil rfl) rfl rfl rfl))))))))
noncomputable def fm_is_word : FM := bodyM 7 (sSeq (sDrop (eFn fm_check_weather (bCons (eVar 0) bNil))) (sSeq (sIf (mNot (mTru (eIsi "tuple" (eVar 1)))) (sRet (eC (.bool false))) sPass) (sSeq (sSet 2 (eC (.int 0))) (sSeq (sFor (iSeq (eVar 1)) (mName 3) (sSeq (sSet 4 (eComp [5, 6] (iSeq (eOp2 fIx (eVar 0) (eVar 2))) (mTup 2 (mCons (mName 5) (mCons (mName 6) mNil))) (mTru (eFn fm_is_between (bCons (eVar 3) (bCons (eVar 5) (bCons (eVar 5) bNil))))) (eVar 6))) (sSeq (sIf (mT (eOp2 fEq (eVar 4) (eLst aNil))) (sRet (eC (.bool false))) sPass) (sSet 2 (eOp2 fIx (eVar 4) (eC (.int 0))))))) (sRet (eC (.bool true)))))))
theorem ok_is_word (S : Says fc fn K mg) : FnX P w K mg base 6 true "is_word" p_is_word fm_is_word := by
  have c_check_weather := ok_check_weather (P := P) (w := w) (base := base) S
  have c_is_between := ok_is_between (P := P) (w := w) (base := base) S
  obtain ⟨fd, F⟩ := S.defn 8 (d := d_is_word) rfl
  refine fnX_of (k := 5) F sc_is_word (S.glo 34 rfl) (fun _ _ _ _ _ _ us hl => match us, hl with | [_, _], _ => rfl) (fun _ _ _ _ _ _ _ us hl => match us, hl with | [_, _], _ => rfl) fun cdv A outer s H E hr gd => ?_
  exact (dss_cons (ds_drop (dx_fn c_check_weather hr (by decide) gd (takes_of rfl rfl rfl rfl) (db_cons (de_var (i := 0) rfl (.inl rfl) rfl rfl) db_nil rfl) (nom_cons nom_nil) rfl rfl rfl rfl rfl) rfl) (dss_cons (ds_if (dt_not (dt_truth (bx_isi (S.free 0 rfl) (S.free 3 rfl) PyProof.Rows.boot_tuple (de_var (i := 1) rfl (.inl rfl) rfl rfl) rfl rfl (by decide) rfl rfl) (fun _ => rfl))) (dss_one (ds_ret de_bl)) dss_nil) (dss_cons (ds_set (i := 2) sc_is_word.nd rfl (.inl rfl) de_int rfl (.inr rfl)) (dss_cons (ds_for (passes_of rfl) rfl (di_seq (de_var (i := 1) rfl (.inl rfl) rfl rfl)) (dg_name (i := 3) sc_is_word.nd rfl (.inr rfl) (.inl rfl)) (dss_cons (ds_comp (i := 4) (own := [("each", 5), ("following", 6)]) rfl sc_is_word.nd rfl rfl rfl (di_seq (de_ix (de_var (i := 0) rfl (.inl rfl) rfl rfl) (de_var (i := 2) rfl (.inl rfl) rfl rfl) (fun _ _ => rfl))) (blk_ok (by kernel_rfl)) (by decide) (fun _ _ _ _ _ => (dg_tup rfl (dgs_cons (dg_name (i := 5) sc_is_word.nd rfl (.inl rfl) (.inr rfl)) (dgs_cons (dg_name (i := 6) sc_is_word.nd rfl (.inl rfl) (.inr rfl)) dgs_nil rfl) rfl) rfl rfl)) (fun _ _ _ _ _ => (dts_one (dt_truth (dx_fn c_is_between hr (by decide) gd takes0 (db_cons (de_var (i := 3) rfl (.inr (.inl rfl)) rfl rfl) (db_cons (de_var (i := 5) rfl (.inl rfl) rfl rfl) (db_cons (de_var (i := 5) rfl (.inl rfl) rfl rfl) db_nil rfl) rfl) rfl) (nom_cons (nom_cons (nom_cons nom_nil))) rfl rfl rfl rfl rfl) (fun _ => rfl)))) (fun _ _ _ _ _ => (de_var (i := 6) rfl (.inl rfl) rfl rfl)) (fun _ => rfl)) (dss_cons (ds_if (tEq hr.units (de_var (i := 4) rfl (.inl rfl) rfl rfl) (de_lst da_nil)) (dss_one (ds_ret de_bl)) dss_nil) (dss_one (ds_set (i := 2) sc_is_word.nd rfl (.inl rfl) (de_ix (de_var (i := 4) rfl (.inl rfl) rfl rfl) de_int (fun _ _ => rfl)) rfl (.inr rfl))))) (fun _ => rfl)) (dss_one (ds_ret de_bl))))))
noncomputable def fm__law_mug : FM := bodyM 5 (sSeq (sSet 2 (eIf (mT (eOp2 fLt (eVar 1) (eCall fLen (aCons (eVar 0) aNil)))) (eCall fInt (aCons (eOp2 fIx (eVar 0) (eVar 1)) aNil)) (eOp2 fAdd (eOp2 fAdd (eOp2 fMul (eC (.int 6151)) (eVar 1)) (eC (.int 47))) (eOp2 fMod (eCall fInt (aCons (eCall fSum (aCons (eCut (eVar 0) oNo (oSo (eC (.int 4)))) aNil)) aNil)) (eC (.int 1000003)))))) (sSeq (sSet 3 (eOp2 fAdd (eC (.int 30011)) (eOp2 fMul (eC (.int 613)) (eVar 1)))) (sSeq (sFor (iSeq (eOp2 fAdd (eCut (eVar 0) oNo (oSo (eC (.int 9)))) (eLst (aCons (eVar 2) aNil)))) (mName 4) (sSet 3 (eOp2 fMod (eCall fInt (aCons (eOp2 fAdd (eOp2 fAdd (eOp2 fMul (eVar 3) (eC (.int 50021))) (eOp2 fMod (eCall fInt (aCons (eVar 4) aNil)) (eC (.int 2147483543)))) (eC (.int 13))) aNil)) (eC (.int 2147483543))))) (sRet (eLst (aCons (eIf (mOr (mT (eOp2 fLt (eVar 2) (eC (.int 0)))) (mT (eOp2 fGe (eVar 2) (eOp2 fPow (eC (.int 10)) (eC (.int 18)))))) (eCall fAbs (aCons (eVar 2) aNil)) (eC (.int 0))) (aCons (eVar 3) (aCons (eC (.int 0)) aNil))))))))
theorem ok__law_mug (S : Says fc fn K mg) : FnX P w K mg base 1 false "_law_mug" p__law_mug fm__law_mug := by
  obtain ⟨fd, F⟩ := S.defn 9 (d := d__law_mug) rfl
  refine fnX_of (k := 0) F sc__law_mug (S.glo 35 rfl) (fun _ _ _ _ _ _ us hl => match us, hl with | [_, _], _ => rfl) (fun h => nomatch h) fun cdv A outer s H E hr gd => ?_
  exact (dss_cons (ds_set (i := 2) sc__law_mug.nd rfl (.inl rfl) (de_if (tLt (de_var (i := 1) rfl (.inl rfl) rfl rfl) (bx_len (S.free 4 rfl) (da_cons (de_var (i := 0) rfl (.inl rfl) rfl rfl) da_nil rfl) rfl rfl rfl)) (bx_int (S.free 1 rfl) (da_cons (de_ix (de_var (i := 0) rfl (.inl rfl) rfl rfl) (de_var (i := 1) rfl (.inl rfl) rfl rfl) (fun _ _ => rfl)) da_nil rfl) rfl rfl rfl) (xAdd (xAdd (xMul de_int (de_var (i := 1) rfl (.inl rfl) rfl rfl)) de_int) (xMod (bx_int (S.free 1 rfl) (da_cons (bx_sum rfl (S.free 11 rfl) (da_cons (de_cut (de_var (i := 0) rfl (.inl rfl) rfl rfl) do_no (do_so de_int)) da_nil rfl) rfl rfl rfl) da_nil rfl) rfl rfl rfl) de_int))) rfl (.inr rfl)) (dss_cons (ds_set (i := 3) sc__law_mug.nd rfl (.inl rfl) (xAdd de_int (xMul de_int (de_var (i := 1) rfl (.inl rfl) rfl rfl))) rfl (.inr rfl)) (dss_cons (ds_for (passes_of rfl) rfl (di_seq (xAdd (de_cut (de_var (i := 0) rfl (.inl rfl) rfl rfl) do_no (do_so de_int)) (de_lst (da_cons (de_var (i := 2) rfl (.inl rfl) rfl rfl) da_nil rfl)))) (dg_name (i := 4) sc__law_mug.nd rfl (.inl rfl) (.inr rfl)) (dss_one (ds_set (i := 3) sc__law_mug.nd rfl (.inl rfl) (xMod (bx_int (S.free 1 rfl) (da_cons (xAdd (xAdd (xMul (de_var (i := 3) rfl (.inl rfl) rfl rfl) de_int) (xMod (bx_int (S.free 1 rfl) (da_cons (de_var (i := 4) rfl (.inl rfl) rfl rfl) da_nil rfl) rfl rfl rfl) de_int)) de_int) da_nil rfl) rfl rfl rfl) de_int) rfl (.inr rfl))) (fun _ => rfl)) (dss_one (ds_ret (de_lst (da_cons (de_if (dt_of (dw_or (tLt (de_var (i := 2) rfl (.inl rfl) rfl rfl) de_int) (dw_or1 (tGe (de_var (i := 2) rfl (.inl rfl) rfl rfl) (xPow de_int de_int))))) (bx_abs (S.free 14 rfl) (da_cons (de_var (i := 2) rfl (.inl rfl) rfl rfl) da_nil rfl) rfl rfl rfl) de_int) (da_cons (de_var (i := 3) rfl (.inl rfl) rfl rfl) (da_cons de_int da_nil rfl) rfl) rfl)))))))
noncomputable def fm__law_dip : FM := bodyM 4 (sSeq (sIf (mT (eOp2 fGt (eMug 0 0) (eC (.int 0)))) (sSeq (sAsg (eCall fDivmod (aCons (eMug 0 0) (aCons (eVar 1) aNil))) (mTup 2 (mCons (mMug 0 0) (mCons (mName 2) mNil)))) (sRet (eVar 2))) sPass) (sSeq (sAsg (eOp2 fAdd (eMug 0 2) (eC (.int 1))) (mMug 0 2)) (sSeq (sSet 3 (eOp2 fAdd (eOp2 fMod (eCall fInt (aCons (eMug 0 1) aNil)) (eC (.int 29989))) (eC (.int 20011)))) (sSeq (sAsg (eOp2 fMod (eCall fInt (aCons (eOp2 fAdd (eOp2 fAdd (eOp2 fMul (eMug 0 1) (eVar 3)) (eOp2 fMul (eC (.int 50021)) (eMug 0 2))) (eC (.int 7))) aNil)) (eC (.int 2147483543))) (mMug 0 1)) (sRet (eOp2 fMod (eCall fInt (aCons (eOp2 fDiv (eMug 0 1) (eC (.int 89))) aNil)) (eVar 1)))))))
theorem ok__law_dip (S : Says fc fn K mg) : FnX P w K mg base 1 false "_law_dip" p__law_dip fm__law_dip := by
  obtain ⟨fd, F⟩ := S.defn 10 (d := d__law_dip) rfl
  refine fnX_of (k := 0) F sc__law_dip (S.glo 36 rfl) (fun _ _ _ _ _ _ us hl => match us, hl with | [_, _], _ => rfl) (fun h => nomatch h) fun cdv A outer s H E hr gd => ?_
  exact (dss_cons (ds_if (tGt (de_mug (i := 0) (k := 0) rfl (.inl rfl) rfl rfl) de_int) (dss_cons (ds_asg (bx_divmod (S.free 15 rfl) (da_cons (de_mug (i := 0) (k := 0) rfl (.inl rfl) rfl rfl) (da_cons (de_var (i := 1) rfl (.inl rfl) rfl rfl) da_nil rfl) rfl) rfl rfl rfl) (dg_tup rfl (dgs_cons (dg_mug (i := 0) (j := 0) rfl (.inl rfl) rfl rfl (fun _ => rfl)) (dgs_cons (dg_name (i := 2) sc__law_dip.nd rfl (.inl rfl) (.inr rfl)) dgs_nil rfl) rfl) rfl rfl) rfl rfl rfl) (dss_one (ds_ret (de_var (i := 2) rfl (.inl rfl) rfl rfl)))) dss_nil) (dss_cons (ds_asg (xAdd (de_mug (i := 0) (k := 2) rfl (.inl rfl) rfl rfl) de_int) (dg_mug (i := 0) (j := 2) rfl (.inl rfl) rfl rfl (fun _ => rfl)) rfl rfl rfl) (dss_cons (ds_set (i := 3) sc__law_dip.nd rfl (.inl rfl) (xAdd (xMod (bx_int (S.free 1 rfl) (da_cons (de_mug (i := 0) (k := 1) rfl (.inl rfl) rfl rfl) da_nil rfl) rfl rfl rfl) de_int) de_int) rfl (.inr rfl)) (dss_cons (ds_asg (xMod (bx_int (S.free 1 rfl) (da_cons (xAdd (xAdd (xMul (de_mug (i := 0) (k := 1) rfl (.inl rfl) rfl rfl) (de_var (i := 3) rfl (.inl rfl) rfl rfl)) (xMul de_int (de_mug (i := 0) (k := 2) rfl (.inl rfl) rfl rfl))) de_int) da_nil rfl) rfl rfl rfl) de_int) (dg_mug (i := 0) (j := 1) rfl (.inl rfl) rfl rfl (fun _ => rfl)) rfl rfl rfl) (dss_one (ds_ret (xMod (bx_int (S.free 1 rfl) (da_cons (xDiv (de_mug (i := 0) (k := 1) rfl (.inl rfl) rfl rfl) de_int) da_nil rfl) rfl rfl rfl) (de_var (i := 1) rfl (.inl rfl) rfl rfl))))))))
noncomputable def fm__law_pick : FM := bodyM 2 (sRet (eOp2 fIx (eVar 1) (eFnM fm__law_dip (bMug 0 (bCons (eCall fLen (aCons (eVar 1) aNil)) bNil)))))
theorem ok__law_pick (S : Says fc fn K mg) : FnX P w K mg base 2 false "_law_pick" p__law_pick fm__law_pick := by
  have c__law_dip := ok__law_dip (P := P) (w := w) (base := base) S
  obtain ⟨fd, F⟩ := S.defn 11 (d := d__law_pick) rfl
  refine fnX_of (k := 1) F sc__law_pick (S.glo 37 rfl) (fun _ _ _ _ _ _ us hl => match us, hl with | [_, _], _ => rfl) (fun h => nomatch h) fun cdv A outer s H E hr gd => ?_
  exact (dss_one (ds_ret (de_ix (de_var (i := 1) rfl (.inl rfl) rfl rfl) (dx_fnM c__law_dip hr (by decide) gd (takes_of rfl rfl rfl rfl) (db_mug (i := 0) rfl (.inl rfl) rfl rfl (db_cons (bx_len (S.free 4 rfl) (da_cons (de_var (i := 1) rfl (.inl rfl) rfl rfl) da_nil rfl) rfl rfl rfl) db_nil rfl) rfl) (ln_mug (ln_cons ln_nil)) rfl rfl rfl rfl) (fun _ _ => rfl))))
noncomputable def fm__law_sky : FM := bodyM 8 (sSeq (sParO [2, 3] (pVal (eFnM fm__law_pick (bMug 0 (bCons (eLst (aCons (eC (.int 1)) (aCons (eC (.int 1)) (aCons (eC (.int 2)) (aCons (eC (.int 2)) (aCons (eC (.int 3)) aNil)))))) bNil))) (pOwn aNil pNil))) (sSeq (sFor (iRange1 (aCons (eVar 2) aNil)) (mName 4) (sSeq (sParO [5, 6] (pOwn (aCons (eC (.int 0)) (aCons (eC (.int 1)) (aCons (eC (.int 2)) (aCons (eC (.int 3)) aNil)))) (pOwn aNil pNil))) (sSeq (sFor (iRange1 (aCons (eOp2 fAdd (eC (.int 1)) (eFnM fm__law_dip (bMug 0 (bCons (eVar 1) bNil)))) aNil)) (mName 7) (sAppPop 6 5 (eBor 5 (eFnM fm__law_dip (bMug 0 (bCons (eCall fLen (aCons (eVar 5) aNil)) bNil)))) (eFnM fm__law_dip (bMug 0 (bCons (eVar 2) bNil))))) (sApp 3 (eBor 6 (eCall fTuple (aCons (eVar 6) aNil))))))) (sFz 3 (sRet (eCall fTuple (aCons (eVar 3) aNil))))))
theorem ok__law_sky (S : Says fc fn K mg) : FnX P w K mg base 3 false "_law_sky" p__law_sky fm__law_sky := by
  have c__law_dip := ok__law_dip (P := P) (w := w) (base := base) S
  have c__law_pick := ok__law_pick (P := P) (w := w) (base := base) S
  obtain ⟨fd, F⟩ := S.defn 12 (d := d__law_sky) rfl
  refine fnX_of (k := 2) F sc__law_sky (S.glo 38 rfl) (fun _ _ _ _ _ _ us hl => match us, hl with | [_, _], _ => rfl) (fun h => nomatch h) fun cdv A outer s H E hr gd => ?_
  exact (dss_cons (ds_par2 (i := 2) (j := 3) rfl sc__law_sky.nd rfl rfl (by decide) rfl rfl (dp_val (dx_fnM c__law_pick hr (by decide) gd (takes_of rfl rfl rfl rfl) (db_mug (i := 0) rfl (.inl rfl) rfl rfl (db_cons (de_lst (da_cons de_int (da_cons de_int (da_cons de_int (da_cons de_int (da_cons de_int da_nil rfl) rfl) rfl) rfl) rfl)) db_nil rfl) rfl) (ln_mug (ln_cons ln_nil)) rfl rfl rfl rfl) (dp_own da_nil dp_nil rfl) rfl) rfl rfl) (dss_cons (ds_for (passes_of rfl) rfl (di_range1 rfl (S.free 10 rfl) (da_cons (de_var (i := 2) rfl (.inl rfl) rfl rfl) da_nil rfl) rfl) (dg_name (i := 4) sc__law_sky.nd rfl (.inl rfl) (.inr rfl)) (dss_cons (ds_par2 (i := 5) (j := 6) rfl sc__law_sky.nd rfl rfl (by decide) rfl rfl (dp_own (da_cons de_int (da_cons de_int (da_cons de_int (da_cons de_int da_nil rfl) rfl) rfl) rfl) (dp_own da_nil dp_nil rfl) rfl) rfl rfl) (dss_cons (ds_for (passes_of rfl) rfl (di_range1 rfl (S.free 10 rfl) (da_cons (xAdd de_int (dx_fnM c__law_dip hr (by decide) gd (takes_of rfl rfl rfl rfl) (db_mug (i := 0) rfl (.inl rfl) rfl rfl (db_cons (de_var (i := 1) rfl (.inl rfl) rfl rfl) db_nil rfl) rfl) (ln_mug (ln_cons ln_nil)) rfl rfl rfl rfl)) da_nil rfl) rfl) (dg_name (i := 7) sc__law_sky.nd rfl (.inl rfl) (.inr rfl)) (dss_one (ds_appPop (i := 6) (j := 5) rfl (.inl rfl) rfl rfl rfl (.inl rfl) rfl rfl (de_bor (i := 5) (dx_fnM c__law_dip hr (by decide) gd (takes_of rfl rfl rfl rfl) (db_mug (i := 0) rfl (.inl rfl) rfl rfl (db_cons (bx_len (S.free 4 rfl) (da_cons (de_var (i := 5) rfl (.inl rfl) rfl rfl) da_nil rfl) rfl rfl rfl) db_nil rfl) rfl) (ln_mug (ln_cons ln_nil)) rfl rfl rfl rfl)) (dx_fnM c__law_dip hr (by decide) gd (takes_of rfl rfl rfl rfl) (db_mug (i := 0) rfl (.inl rfl) rfl rfl (db_cons (de_var (i := 2) rfl (.inl rfl) rfl rfl) db_nil rfl) rfl) (ln_mug (ln_cons ln_nil)) rfl rfl rfl rfl) rfl rfl rfl rfl rfl rfl rfl)) (fun _ => rfl)) (dss_one (ds_app (i := 3) rfl (.inl rfl) rfl rfl (de_bor (i := 6) (bx_tuple (S.free 3 rfl) (da_cons (de_var (i := 6) rfl (.inl rfl) rfl rfl) da_nil rfl) rfl rfl rfl)) rfl rfl rfl)))) (fun _ => rfl)) (dss_fz (i := 3) (dss_one (ds_ret (bx_tuple (S.free 3 rfl) (da_cons (de_var (i := 3) rfl (.inl rfl) rfl rfl) da_nil rfl) rfl rfl rfl))))))
noncomputable def fm__law_after : FM := bodyM 5 (sSeq (sFor (iSeq (eOp2 fIx (eVar 0) (eVar 1))) (mTup 2 (mCons (mName 3) (mCons (mName 4) mNil))) (sIf (mT (eOp2 fEq (eVar 3) (eVar 2))) (sRet (eVar 4)) sPass)) (sRet (eOp1 fNeg (eC (.int 1)))))
theorem ok__law_after (S : Says fc fn K mg) : FnX P w K mg base 1 false "_law_after" p__law_after fm__law_after := by
  obtain ⟨fd, F⟩ := S.defn 13 (d := d__law_after) rfl
  refine fnX_of (k := 0) F sc__law_after (S.glo 39 rfl) (fun _ _ _ _ _ _ us hl => match us, hl with | [_, _, _], _ => rfl) (fun h => nomatch h) fun cdv A outer s H E hr gd => ?_
  exact (dss_cons (ds_for (passes_of rfl) rfl (di_seq (de_ix (de_var (i := 0) rfl (.inl rfl) rfl rfl) (de_var (i := 1) rfl (.inl rfl) rfl rfl) (fun _ _ => rfl))) (dg_tup rfl (dgs_cons (dg_name (i := 3) sc__law_after.nd rfl (.inl rfl) (.inr rfl)) (dgs_cons (dg_name (i := 4) sc__law_after.nd rfl (.inl rfl) (.inr rfl)) dgs_nil rfl) rfl) rfl rfl) (dss_one (ds_if (tEq hr.units (de_var (i := 3) rfl (.inl rfl) rfl rfl) (de_var (i := 2) rfl (.inl rfl) rfl rfl)) (dss_one (ds_ret (de_var (i := 4) rfl (.inl rfl) rfl rfl))) dss_nil)) (fun _ => rfl)) (dss_one (ds_ret (xNeg de_int))))
noncomputable def fm__law_is_int : FM := bodyM 1 (sRet (eAnd (eIsi "int" (eVar 0)) (eNot (eIsi "bool" (eVar 0)))))
theorem ok__law_is_int (S : Says fc fn K mg) : FnX P w K mg base 1 false "_law_is_int" p__law_is_int fm__law_is_int := by
  obtain ⟨fd, F⟩ := S.defn 14 (d := d__law_is_int) rfl
  refine fnX_of (k := 0) F sc__law_is_int (S.glo 40 rfl) (fun _ _ _ _ _ _ us hl => match us, hl with | [_], _ => rfl) (fun h => nomatch h) fun cdv A outer s H E hr gd => ?_
  exact (dss_one (ds_ret (de_and (bx_isi (S.free 0 rfl) (S.free 1 rfl) PyProof.Rows.boot_int (de_var (i := 0) rfl (.inl rfl) rfl rfl) rfl rfl (by decide) rfl rfl) (de_one (de_not (bx_isi (S.free 0 rfl) (S.free 2 rfl) PyProof.Rows.boot_bool (de_var (i := 0) rfl (.inl rfl) rfl rfl) rfl rfl (by decide) rfl rfl))))))
noncomputable def fm__law_follows : FM := bodyM 4 (sSeq (sIf (mNot (mTru (eIsi "tuple" (eVar 1)))) (sRet (eC (.bool false))) sPass) (sSeq (sSet 2 (eC (.int 0))) (sSeq (sFor (iSeq (eVar 1)) (mName 3) (sSeq (sSet 2 (eIf (mTru (eFn fm__law_is_int (bCons (eVar 3) bNil))) (eFn fm__law_after (bCons (eVar 0) (bCons (eVar 2) (bCons (eVar 3) bNil)))) (eOp1 fNeg (eC (.int 1))))) (sIf (mT (eOp2 fLt (eVar 2) (eC (.int 0)))) (sRet (eC (.bool false))) sPass))) (sRet (eC (.bool true))))))
theorem ok__law_follows (S : Says fc fn K mg) : FnX P w K mg base 2 false "_law_follows" p__law_follows fm__law_follows := by
  have c__law_after := ok__law_after (P := P) (w := w) (base := base) S
  have c__law_is_int := ok__law_is_int (P := P) (w := w) (base := base) S
  obtain ⟨fd, F⟩ := S.defn 15 (d := d__law_follows) rfl
  refine fnX_of (k := 1) F sc__law_follows (S.glo 41 rfl) (fun _ _ _ _ _ _ us hl => match us, hl with | [_, _], _ => rfl) (fun h => nomatch h) fun cdv A outer s H E hr gd => ?_
  exact (dss_cons (ds_if (dt_not (dt_truth (bx_isi (S.free 0 rfl) (S.free 3 rfl) PyProof.Rows.boot_tuple (de_var (i := 1) rfl (.inl rfl) rfl rfl) rfl rfl (by decide) rfl rfl) (fun _ => rfl))) (dss_one (ds_ret de_bl)) dss_nil) (dss_cons (ds_set (i := 2) sc__law_follows.nd rfl (.inl rfl) de_int rfl (.inr rfl)) (dss_cons (ds_for (passes_of rfl) rfl (di_seq (de_var (i := 1) rfl (.inl rfl) rfl rfl)) (dg_name (i := 3) sc__law_follows.nd rfl (.inl rfl) (.inr rfl)) (dss_cons (ds_set (i := 2) sc__law_follows.nd rfl (.inl rfl) (de_if (dt_truth (dx_fn c__law_is_int hr (by decide) gd (takes_of rfl rfl rfl rfl) (db_cons (de_var (i := 3) rfl (.inl rfl) rfl rfl) db_nil rfl) (nom_cons nom_nil) rfl rfl rfl rfl rfl) (fun _ => rfl)) (dx_fn c__law_after hr (by decide) gd (takes_of rfl rfl rfl rfl) (db_cons (de_var (i := 0) rfl (.inl rfl) rfl rfl) (db_cons (de_var (i := 2) rfl (.inl rfl) rfl rfl) (db_cons (de_var (i := 3) rfl (.inl rfl) rfl rfl) db_nil rfl) rfl) rfl) (nom_cons (nom_cons (nom_cons nom_nil))) rfl rfl rfl rfl rfl) (xNeg de_int)) rfl (.inr rfl)) (dss_one (ds_if (tLt (de_var (i := 2) rfl (.inl rfl) rfl rfl) de_int) (dss_one (ds_ret de_bl)) dss_nil))) (fun _ => rfl)) (dss_one (ds_ret de_bl)))))
noncomputable def fm__law_walked : FM := bodyM 7 (sSeq (sAsg (eTup (aCons (eTup aNil) (aCons (eC (.int 0)) aNil))) (mTup 2 (mCons (mName 3) (mCons (mName 4) mNil)))) (sSeq (sFor (iRange1 (aCons (eVar 2) aNil)) (mName 5) (sSeq (sAsg (eFnM fm__law_pick (bMug 0 (bCons (eOp2 fIx (eVar 1) (eVar 4)) bNil))) (mTup 2 (mCons (mName 6) (mCons (mName 4) mNil)))) (sSet 3 (eOp2 fAdd (eVar 3) (eTup (aCons (eVar 6) aNil)))))) (sRet (eVar 3))))
theorem ok__law_walked (S : Says fc fn K mg) : FnX P w K mg base 3 false "_law_walked" p__law_walked fm__law_walked := by
  have c__law_pick := ok__law_pick (P := P) (w := w) (base := base) S
  obtain ⟨fd, F⟩ := S.defn 16 (d := d__law_walked) rfl
  refine fnX_of (k := 2) F sc__law_walked (S.glo 42 rfl) (fun _ _ _ _ _ _ us hl => match us, hl with | [_, _, _], _ => rfl) (fun h => nomatch h) fun cdv A outer s H E hr gd => ?_
  exact (dss_cons (ds_asg (de_tup (da_cons (de_tup da_nil) (da_cons de_int da_nil rfl) rfl)) (dg_tup rfl (dgs_cons (dg_name (i := 3) sc__law_walked.nd rfl (.inl rfl) (.inr rfl)) (dgs_cons (dg_name (i := 4) sc__law_walked.nd rfl (.inl rfl) (.inr rfl)) dgs_nil rfl) rfl) rfl rfl) rfl rfl rfl) (dss_cons (ds_for (passes_of rfl) rfl (di_range1 rfl (S.free 10 rfl) (da_cons (de_var (i := 2) rfl (.inl rfl) rfl rfl) da_nil rfl) rfl) (dg_name (i := 5) sc__law_walked.nd rfl (.inl rfl) (.inr rfl)) (dss_cons (ds_asg (dx_fnM c__law_pick hr (by decide) gd (takes_of rfl rfl rfl rfl) (db_mug (i := 0) rfl (.inl rfl) rfl rfl (db_cons (de_ix (de_var (i := 1) rfl (.inl rfl) rfl rfl) (de_var (i := 4) rfl (.inl rfl) rfl rfl) (fun _ _ => rfl)) db_nil rfl) rfl) (ln_mug (ln_cons ln_nil)) rfl rfl rfl rfl) (dg_tup rfl (dgs_cons (dg_name (i := 6) sc__law_walked.nd rfl (.inl rfl) (.inr rfl)) (dgs_cons (dg_name (i := 4) sc__law_walked.nd rfl (.inl rfl) (.inr rfl)) dgs_nil rfl) rfl) rfl rfl) rfl rfl rfl) (dss_one (ds_set (i := 3) sc__law_walked.nd rfl (.inl rfl) (xAdd (de_var (i := 3) rfl (.inl rfl) rfl rfl) (de_tup (da_cons (de_var (i := 6) rfl (.inl rfl) rfl rfl) da_nil rfl))) rfl (.inr rfl)))) (fun _ => rfl)) (dss_one (ds_ret (de_var (i := 3) rfl (.inl rfl) rfl rfl)))))
noncomputable def fm__law_odd : FM := bodyM 2 (sSeq (sSet 1 (eLst (aCons (eC .none) (aCons (eC (.bool true)) (aCons (eC (.bool false)) (aCons (eC (.int 0)) (aCons (eC (.int 1)) (aCons (eOp1 fNeg (eC (.int 1))) (aCons (eC (.int 4)) (aCons (eC (.int 7)) (aCons (eOp2 fPow (eC (.int 10)) (eC (.int 30))) (aCons (eC (.str "")) (aCons (eC (.str "east")) (aCons (eC (.str "made")) (aCons (eTup aNil) (aCons (eTup (aCons (eC (.int 0)) aNil)) (aCons (eTup (aCons (eC (.int 1)) (aCons (eC (.int 0)) aNil))) (aCons (eTup (aCons (eC (.int 0)) (aCons (eC (.int 1)) aNil))) (aCons (eTup (aCons (eC (.int 0)) (aCons (eC (.int 0)) (aCons (eC (.int 1)) aNil)))) (aCons (eTup (aCons (eC (.int 0)) (aCons (eC (.int 0)) (aCons (eC (.int 2)) aNil)))) aNil)))))))))))))))))))) (sSeq (sSet 1 (eOp2 fAdd (eVar 1) (eLst (aCons (eTup (aCons (eC (.bool true)) (aCons (eC (.int 0)) (aCons (eC (.int 1)) aNil)))) (aCons (eTup (aCons (eTup (aCons (eC (.int 0)) (aCons (eC (.int 0)) (aCons (eC (.int 1)) aNil)))) aNil)) (aCons (eLst aNil) (aCons (eLst (aCons (eTup (aCons (eC (.int 0)) (aCons (eC (.int 0)) (aCons (eC (.int 1)) aNil)))) aNil)) (aCons (eC (.dict [])) (aCons (eTup (aCons (eTup (aCons (eC (.int 0)) (aCons (eC (.int 0)) aNil))) aNil)) (aCons (eTup (aCons (eTup (aCons (eC (.int 1)) (aCons (eC (.int 0)) (aCons (eC (.int 1)) aNil)))) (aCons (eTup (aCons (eC (.int 0)) (aCons (eC (.int 0)) (aCons (eC (.int 1)) aNil)))) aNil))) (aCons (eTup (aCons (eC (.int 3)) (aCons (eC (.int 2)) aNil))) (aCons (eTup (aCons (eC (.int 1)) (aCons (eC (.int 0)) (aCons (eOp1 fNeg (eC (.int 1))) aNil)))) aNil)))))))))))) (sRet (eFnM fm__law_pick (bMug 0 (bCons (eVar 1) bNil))))))
theorem ok__law_odd (S : Says fc fn K mg) : FnX P w K mg base 3 false "_law_odd" p__law_odd fm__law_odd := by
  have c__law_pick := ok__law_pick (P := P) (w := w) (base := base) S
  obtain ⟨fd, F⟩ := S.defn 17 (d := d__law_odd) rfl
  refine fnX_of (k := 2) F sc__law_odd (S.glo 43 rfl) (fun _ _ _ _ _ _ us hl => match us, hl with | [_], _ => rfl) (fun h => nomatch h) fun cdv A outer s H E hr gd => ?_
  exact (dss_cons (ds_set (i := 1) sc__law_odd.nd rfl (.inl rfl) (de_lst (da_cons de_non (da_cons de_bl (da_cons de_bl (da_cons de_int (da_cons de_int (da_cons (xNeg de_int) (da_cons de_int (da_cons de_int (da_cons (xPow de_int de_int) (da_cons de_str (da_cons de_str (da_cons de_str (da_cons (de_tup da_nil) (da_cons (de_tup (da_cons de_int da_nil rfl)) (da_cons (de_tup (da_cons de_int (da_cons de_int da_nil rfl) rfl)) (da_cons (de_tup (da_cons de_int (da_cons de_int da_nil rfl) rfl)) (da_cons (de_tup (da_cons de_int (da_cons de_int (da_cons de_int da_nil rfl) rfl) rfl)) (da_cons (de_tup (da_cons de_int (da_cons de_int (da_cons de_int da_nil rfl) rfl) rfl)) da_nil rfl) rfl) rfl) rfl) rfl) rfl) rfl) rfl) rfl) rfl) rfl) rfl) rfl) rfl) rfl) rfl) rfl) rfl)) rfl (.inr rfl)) (dss_cons (ds_set (i := 1) sc__law_odd.nd rfl (.inl rfl) (xAdd (de_var (i := 1) rfl (.inl rfl) rfl rfl) (de_lst (da_cons (de_tup (da_cons de_bl (da_cons de_int (da_cons de_int da_nil rfl) rfl) rfl)) (da_cons (de_tup (da_cons (de_tup (da_cons de_int (da_cons de_int (da_cons de_int da_nil rfl) rfl) rfl)) da_nil rfl)) (da_cons (de_lst da_nil) (da_cons (de_lst (da_cons (de_tup (da_cons de_int (da_cons de_int (da_cons de_int da_nil rfl) rfl) rfl)) da_nil rfl)) (da_cons de_dict0 (da_cons (de_tup (da_cons (de_tup (da_cons de_int (da_cons de_int da_nil rfl) rfl)) da_nil rfl)) (da_cons (de_tup (da_cons (de_tup (da_cons de_int (da_cons de_int (da_cons de_int da_nil rfl) rfl) rfl)) (da_cons (de_tup (da_cons de_int (da_cons de_int (da_cons de_int da_nil rfl) rfl) rfl)) da_nil rfl) rfl)) (da_cons (de_tup (da_cons de_int (da_cons de_int da_nil rfl) rfl)) (da_cons (de_tup (da_cons de_int (da_cons de_int (da_cons (xNeg de_int) da_nil rfl) rfl) rfl)) da_nil rfl) rfl) rfl) rfl) rfl) rfl) rfl) rfl) rfl))) rfl (.inr rfl)) (dss_one (ds_ret (dx_fnM c__law_pick hr (by decide) gd (takes_of rfl rfl rfl rfl) (db_mug (i := 0) rfl (.inl rfl) rfl rfl (db_cons (de_var (i := 1) rfl (.inl rfl) rfl rfl) db_nil rfl) rfl) (ln_mug (ln_cons ln_nil)) rfl rfl rfl rfl)))))
noncomputable def fm__law_count : FM := bodyM 7 (sSeq (sSet 2 (eComp [4] (iSeq (eVar 0)) (mName 4) mYes (eC (.int 1)))) (sSeq (sFor (iRange1 (aCons (eVar 1) aNil)) (mName 3) (sSet 2 (eComp [4] (iSeq (eVar 0)) (mName 4) mYes (eCall fSum (aCons (eComp [5, 6] (iSeq (eVar 4)) (mTup 2 (mCons (mName 5) (mCons (mName 6) mNil))) mYes (eOp2 fIx (eVar 2) (eVar 6))) aNil))))) (sRet (eOp2 fIx (eVar 2) (eC (.int 0))))))
theorem ok__law_count (S : Says fc fn K mg) : FnX P w K mg base 1 false "_law_count" p__law_count fm__law_count := by
  obtain ⟨fd, F⟩ := S.defn 18 (d := d__law_count) rfl
  refine fnX_of (k := 0) F sc__law_count (S.glo 44 rfl) (fun _ _ _ _ _ _ us hl => match us, hl with | [_, _], _ => rfl) (fun h => nomatch h) fun cdv A outer s H E hr gd => ?_
  exact (dss_cons (ds_set (i := 2) sc__law_count.nd rfl (.inr rfl) (de_comp (own := [("_law_row", 4)]) rfl sc__law_count.nd (di_seq (de_var (i := 0) rfl (.inl rfl) rfl rfl)) (blk_ok (by kernel_rfl)) (by decide) (fun _ _ _ _ _ => (dg_name (i := 4) sc__law_count.nd rfl (.inl rfl) (.inr rfl))) (fun _ _ _ _ _ => dts_nil) (fun _ _ _ _ _ => de_int) (fun _ => rfl)) rfl (.inl rfl)) (dss_cons (ds_for (passes_of rfl) rfl (di_range1 rfl (S.free 10 rfl) (da_cons (de_var (i := 1) rfl (.inl rfl) rfl rfl) da_nil rfl) rfl) (dg_name (i := 3) sc__law_count.nd rfl (.inl rfl) (.inr rfl)) (dss_one (ds_set (i := 2) sc__law_count.nd rfl (.inr rfl) (de_comp (own := [("_law_row", 4)]) rfl sc__law_count.nd (di_seq (de_var (i := 0) rfl (.inl rfl) rfl rfl)) (blk_ok (by kernel_rfl)) (by decide) (fun _ _ _ _ _ => (dg_name (i := 4) sc__law_count.nd rfl (.inl rfl) (.inr rfl))) (fun _ _ _ _ _ => dts_nil) (fun _ _ _ _ _ => (bx_sum rfl (S.free 11 rfl) (da_cons (de_comp (own := [("_law_wind", 5), ("_law_goal", 6)]) rfl sc__law_count.nd (di_seq (de_var (i := 4) rfl (.inl rfl) rfl rfl)) (blk_ok (by kernel_rfl)) (by decide) (fun _ _ _ _ _ => (dg_tup rfl (dgs_cons (dg_name (i := 5) sc__law_count.nd rfl (.inl rfl) (.inr rfl)) (dgs_cons (dg_name (i := 6) sc__law_count.nd rfl (.inl rfl) (.inr rfl)) dgs_nil rfl) rfl) rfl rfl)) (fun _ _ _ _ _ => dts_nil) (fun _ _ _ _ _ => (de_ix (de_var (i := 2) rfl (.inr (.inl rfl)) rfl rfl) (de_var (i := 6) rfl (.inl rfl) rfl rfl) (fun _ _ => rfl))) (fun _ => rfl)) da_nil rfl) rfl rfl rfl)) (fun _ => rfl)) rfl (.inl rfl))) (fun _ => rfl)) (dss_one (ds_ret (de_ix (de_var (i := 2) rfl (.inr (.inl rfl)) rfl rfl) de_int (fun _ _ => rfl))))))
noncomputable def fm__law_walks : FM := bodyM 9 (sSeq (sSet 2 (eLst (aCons (eTup (aCons (eTup aNil) (aCons (eC (.int 0)) aNil))) aNil))) (sSeq (sFor (iRange1 (aCons (eVar 1) aNil)) (mName 3) (sSeq (sSet 4 (eLst aNil)) (sSeq (sFor (iSeq (eVar 2)) (mTup 2 (mCons (mName 5) (mCons (mName 6) mNil))) (sSet 4 (eOp2 fAdd (eVar 4) (eComp [7] (iSeq (eOp2 fIx (eVar 0) (eVar 6))) (mName 7) mYes (eTup (aCons (eOp2 fAdd (eVar 5) (eTup (aCons (eOp2 fIx (eVar 7) (eC (.int 0))) aNil))) (aCons (eOp2 fIx (eVar 7) (eC (.int 1))) aNil))))))) (sSet 2 (eVar 4))))) (sRet (eCall fTuple (aCons (eCall fSort (aCons (eComp [8] (iSeq (eVar 2)) (mName 8) mYes (eOp2 fIx (eVar 8) (eC (.int 0)))) aNil)) aNil)))))
theorem ok__law_walks (S : Says fc fn K mg) : FnX P w K mg base 1 false "_law_walks" p__law_walks fm__law_walks := by
  obtain ⟨fd, F⟩ := S.defn 19 (d := d__law_walks) rfl
  refine fnX_of (k := 0) F sc__law_walks (S.glo 45 rfl) (fun _ _ _ _ _ _ us hl => match us, hl with | [_, _], _ => rfl) (fun h => nomatch h) fun cdv A outer s H E hr gd => ?_
  exact (dss_cons (ds_set (i := 2) sc__law_walks.nd rfl (.inl rfl) (de_lst (da_cons (de_tup (da_cons (de_tup da_nil) (da_cons de_int da_nil rfl) rfl)) da_nil rfl)) rfl (.inr rfl)) (dss_cons (ds_for (passes_of rfl) rfl (di_range1 rfl (S.free 10 rfl) (da_cons (de_var (i := 1) rfl (.inl rfl) rfl rfl) da_nil rfl) rfl) (dg_name (i := 3) sc__law_walks.nd rfl (.inl rfl) (.inr rfl)) (dss_cons (ds_set (i := 4) sc__law_walks.nd rfl (.inl rfl) (de_lst da_nil) rfl (.inr rfl)) (dss_cons (ds_for (passes_of rfl) rfl (di_seq (de_var (i := 2) rfl (.inl rfl) rfl rfl)) (dg_tup rfl (dgs_cons (dg_name (i := 5) sc__law_walks.nd rfl (.inr rfl) (.inl rfl)) (dgs_cons (dg_name (i := 6) sc__law_walks.nd rfl (.inl rfl) (.inr rfl)) dgs_nil rfl) rfl) rfl rfl) (dss_one (ds_set (i := 4) sc__law_walks.nd rfl (.inl rfl) (xAdd (de_var (i := 4) rfl (.inl rfl) rfl rfl) (de_comp (own := [("_law_duo", 7)]) rfl sc__law_walks.nd (di_seq (de_ix (de_var (i := 0) rfl (.inl rfl) rfl rfl) (de_var (i := 6) rfl (.inl rfl) rfl rfl) (fun _ _ => rfl))) (blk_ok (by kernel_rfl)) (by decide) (fun _ _ _ _ _ => (dg_name (i := 7) sc__law_walks.nd rfl (.inl rfl) (.inr rfl))) (fun _ _ _ _ _ => dts_nil) (fun _ _ _ _ _ => (de_tup (da_cons (xAdd (de_var (i := 5) rfl (.inr (.inl rfl)) rfl rfl) (de_tup (da_cons (de_ix (de_var (i := 7) rfl (.inl rfl) rfl rfl) de_int (fun _ _ => rfl)) da_nil rfl))) (da_cons (de_ix (de_var (i := 7) rfl (.inl rfl) rfl rfl) de_int (fun _ _ => rfl)) da_nil rfl) rfl))) (fun _ => rfl))) rfl (.inr rfl))) (fun _ => rfl)) (dss_one (ds_set (i := 2) sc__law_walks.nd rfl (.inl rfl) (de_var (i := 4) rfl (.inl rfl) rfl rfl) rfl (.inr rfl))))) (fun _ => rfl)) (dss_one (ds_ret (bx_tuple (S.free 3 rfl) (da_cons (bx_sorted (S.free 13 rfl) (da_cons (de_comp (own := [("_law_row", 8)]) rfl sc__law_walks.nd (di_seq (de_var (i := 2) rfl (.inl rfl) rfl rfl)) (blk_ok (by kernel_rfl)) (by decide) (fun _ _ _ _ _ => (dg_name (i := 8) sc__law_walks.nd rfl (.inl rfl) (.inr rfl))) (fun _ _ _ _ _ => dts_nil) (fun _ _ _ _ _ => (de_ix (de_var (i := 8) rfl (.inl rfl) rfl rfl) de_int (fun _ _ => rfl))) (fun _ => rfl)) da_nil rfl) rfl rfl rfl) da_nil rfl) rfl rfl rfl)))))
noncomputable def fm__law_told : FM := bodyM 3 (sTryAs 2 (fun c => ([("InvalidNumber", false), ("InvalidWeather", false), ("TooMany", true)] : List (PySem.Str × Bool)).lookup c) (sRet (eLst (aCons (eC (.str "told")) (aCons (eCall fRepr (aCons (eFn fm_words (bCons (eVar 0) (bCons (eVar 1) bNil))) aNil)) aNil)))) (fun _ a dx => sRet (eLst (aCons (eC (.str "too many")) (aCons (eCall fRepr (aCons (eExn 2 "given" a dx) aNil)) aNil)))))
theorem ok__law_told (S : Says fc fn K mg) : FnX P w K mg base 7 false "_law_told" p__law_told fm__law_told := by
  have c_words := ok_words (P := P) (w := w) (base := base) S
  have x_TooMany := x_TooMany (P := P) (w := w) (base := base) S
  obtain ⟨fd, F⟩ := S.defn 20 (d := d__law_told) rfl
  refine fnX_of (k := 6) F sc__law_told (S.glo 46 rfl) (fun _ _ _ _ _ _ us hl => match us, hl with | [_, _], _ => rfl) (fun h => nomatch h) fun cdv A outer s H E hr gd => ?_
  exact (dss_one (tx_try (i := 2) (l := [("InvalidNumber", false), ("InvalidWeather", false), ("TooMany", true)]) (S.excG 17 rfl) (mt_cons (S.excG 21 rfl) (S.exm 22 rfl) (mt_cons (S.excG 19 rfl) (S.exm 20 rfl) (mt_cons (S.excG 17 rfl) (S.exm 18 rfl) mt_nil))) (takes_of rfl rfl rfl rfl) (pl_ret (plc_lst (plc_cons plc_c (plc_cons (plc_call (plc_cons plc_exn plc_nil)) plc_nil)))) (fun _ _ _ tk' hp' => (dss_one (ds_ret (de_lst (da_cons de_str (da_cons (bx_repr gd hr.units (S.free 16 rfl) (da_cons (dx_fn c_words hr (by decide) gd tk' (db_cons (de_var (i := 0) rfl (.inl rfl) rfl rfl) (db_cons (de_var (i := 1) rfl (.inl rfl) rfl rfl) db_nil rfl) rfl) (nom_cons (nom_cons nom_nil)) rfl rfl rfl rfl rfl) da_nil rfl) rfl rfl rfl) da_nil rfl) rfl))))) (fun a oe dx _ c _ hz hfl hC hlk => by
      have hce : c = "TooMany" := lk_only rfl hlk
      subst hce
      have ee := x_TooMany
      exact (dss_one (ds_ret (de_lst (da_cons de_str (da_cons (bx_repr gd hr.units (S.free 16 rfl) (da_cons (ex_field (i := 2) ee hC hz hfl rfl (.inl rfl) rfl rfl rfl) da_nil rfl) rfl rfl rfl) da_nil rfl) rfl))))) rfl rfl sc__law_told.nd rfl rfl rfl rfl))
noncomputable def fm__law_bent : FM := bodyM 5 (sSeq (sParO [2, 3, 4] (pVal (eFnM fm__law_dip (bMug 0 (bCons (eC (.int 6)) bNil))) (pVal (eFnM fm__law_dip (bMug 0 (bCons (eOp2 fAdd (eCall fLen (aCons (eVar 1) aNil)) (eC (.int 1))) bNil))) (pVal (eFnM fm__law_pick (bMug 0 (bCons (eLst (aCons (eC (.int 0)) (aCons (eC (.int 1)) (aCons (eC (.int 2)) (aCons (eC (.int 3)) (aCons (eC (.int 4)) (aCons (eOp1 fNeg (eC (.int 1))) (aCons (eC (.bool true)) (aCons (eC (.str "0")) (aCons (eC .none) (aCons (eOp2 fPow (eC (.int 10)) (eC (.int 30))) aNil))))))))))) bNil))) pNil)))) (sSeq (sIf (mT (eOp2 fEq (eVar 2) (eC (.int 0)))) (sRet (eCall fList (aCons (eVar 1) aNil))) sPass) (sSeq (sIf (mT (eOp2 fEq (eVar 2) (eC (.int 1)))) (sRet (eOp2 fAdd (eCut (eVar 1) oNo (oSo (eVar 3))) (eCut (eVar 1) (oSo (eOp2 fAdd (eVar 3) (eC (.int 1)))) oNo))) sPass) (sSeq (sIf (mT (eOp2 fEq (eVar 2) (eC (.int 2)))) (sRet (eOp2 fAdd (eOp2 fAdd (eCut (eVar 1) oNo (oSo (eVar 3))) (eTup (aCons (eVar 4) aNil))) (eCut (eVar 1) (oSo (eVar 3)) oNo))) sPass) (sSeq (sIf (mT (eOp2 fEq (eVar 2) (eC (.int 3)))) (sRet (eOp2 fAdd (eOp2 fAdd (eCut (eVar 1) oNo (oSo (eVar 3))) (eCut (eVar 1) oNo (oSo (eVar 3)))) (eCut (eVar 1) (oSo (eVar 3)) oNo))) sPass) (sRet (eOp2 fAdd (eOp2 fAdd (eCut (eVar 1) oNo (oSo (eVar 3))) (eTup (aCons (eVar 4) aNil))) (eCut (eVar 1) (oSo (eOp2 fAdd (eVar 3) (eC (.int 1)))) oNo))))))))
theorem ok__law_bent (S : Says fc fn K mg) : FnX P w K mg base 3 false "_law_bent" p__law_bent fm__law_bent := by
  have c__law_dip := ok__law_dip (P := P) (w := w) (base := base) S
  have c__law_pick := ok__law_pick (P := P) (w := w) (base := base) S
  obtain ⟨fd, F⟩ := S.defn 21 (d := d__law_bent) rfl
  refine fnX_of (k := 2) F sc__law_bent (S.glo 47 rfl) (fun _ _ _ _ _ _ us hl => match us, hl with | [_, _], _ => rfl) (fun h => nomatch h) fun cdv A outer s H E hr gd => ?_
  exact (dss_cons (ds_par3 (i := 2) (j := 3) (l := 4) rfl sc__law_bent.nd rfl rfl rfl (by decide) (by decide) (by decide) rfl rfl rfl (dp_val (dx_fnM c__law_dip hr (by decide) gd (takes_of rfl rfl rfl rfl) (db_mug (i := 0) rfl (.inl rfl) rfl rfl (db_cons de_int db_nil rfl) rfl) (ln_mug (ln_cons ln_nil)) rfl rfl rfl rfl) (dp_val (dx_fnM c__law_dip hr (by decide) gd (takes_of rfl rfl rfl rfl) (db_mug (i := 0) rfl (.inl rfl) rfl rfl (db_cons (xAdd (bx_len (S.free 4 rfl) (da_cons (de_var (i := 1) rfl (.inl rfl) rfl rfl) da_nil rfl) rfl rfl rfl) de_int) db_nil rfl) rfl) (ln_mug (ln_cons ln_nil)) rfl rfl rfl rfl) (dp_val (dx_fnM c__law_pick hr (by decide) gd (takes_of rfl rfl rfl rfl) (db_mug (i := 0) rfl (.inl rfl) rfl rfl (db_cons (de_lst (da_cons de_int (da_cons de_int (da_cons de_int (da_cons de_int (da_cons de_int (da_cons (xNeg de_int) (da_cons de_bl (da_cons de_str (da_cons de_non (da_cons (xPow de_int de_int) da_nil rfl) rfl) rfl) rfl) rfl) rfl) rfl) rfl) rfl) rfl)) db_nil rfl) rfl) (ln_mug (ln_cons ln_nil)) rfl rfl rfl rfl) dp_nil rfl) rfl) rfl) rfl rfl) (dss_cons (ds_if (tEq hr.units (de_var (i := 2) rfl (.inl rfl) rfl rfl) de_int) (dss_one (ds_ret (bx_list (S.free 23 rfl) (da_cons (de_var (i := 1) rfl (.inl rfl) rfl rfl) da_nil rfl) rfl rfl rfl))) dss_nil) (dss_cons (ds_if (tEq hr.units (de_var (i := 2) rfl (.inl rfl) rfl rfl) de_int) (dss_one (ds_ret (xAdd (de_cut (de_var (i := 1) rfl (.inl rfl) rfl rfl) do_no (do_so (de_var (i := 3) rfl (.inl rfl) rfl rfl))) (de_cut (de_var (i := 1) rfl (.inl rfl) rfl rfl) (do_so (xAdd (de_var (i := 3) rfl (.inl rfl) rfl rfl) de_int)) do_no)))) dss_nil) (dss_cons (ds_if (tEq hr.units (de_var (i := 2) rfl (.inl rfl) rfl rfl) de_int) (dss_one (ds_ret (xAdd (xAdd (de_cut (de_var (i := 1) rfl (.inl rfl) rfl rfl) do_no (do_so (de_var (i := 3) rfl (.inl rfl) rfl rfl))) (de_tup (da_cons (de_var (i := 4) rfl (.inl rfl) rfl rfl) da_nil rfl))) (de_cut (de_var (i := 1) rfl (.inl rfl) rfl rfl) (do_so (de_var (i := 3) rfl (.inl rfl) rfl rfl)) do_no)))) dss_nil) (dss_cons (ds_if (tEq hr.units (de_var (i := 2) rfl (.inl rfl) rfl rfl) de_int) (dss_one (ds_ret (xAdd (xAdd (de_cut (de_var (i := 1) rfl (.inl rfl) rfl rfl) do_no (do_so (de_var (i := 3) rfl (.inl rfl) rfl rfl))) (de_cut (de_var (i := 1) rfl (.inl rfl) rfl rfl) do_no (do_so (de_var (i := 3) rfl (.inl rfl) rfl rfl)))) (de_cut (de_var (i := 1) rfl (.inl rfl) rfl rfl) (do_so (de_var (i := 3) rfl (.inl rfl) rfl rfl)) do_no)))) dss_nil) (dss_one (ds_ret (xAdd (xAdd (de_cut (de_var (i := 1) rfl (.inl rfl) rfl rfl) do_no (do_so (de_var (i := 3) rfl (.inl rfl) rfl rfl))) (de_tup (da_cons (de_var (i := 4) rfl (.inl rfl) rfl rfl) da_nil rfl))) (de_cut (de_var (i := 1) rfl (.inl rfl) rfl rfl) (do_so (xAdd (de_var (i := 3) rfl (.inl rfl) rfl rfl) de_int)) do_no)))))))))
noncomputable def fm__law_right : FM := bodyM 10 (sSeq (sAsg (eTup (aCons (eFnM fm__law_sky (bMug 0 (bCons (eFnM fm__law_pick (bMug 0 (bCons (eLst (aCons (eC (.int 2)) (aCons (eC (.int 4)) aNil))) bNil))) bNil))) (aCons (eOp2 fAdd (eC (.int 1)) (eFnM fm__law_dip (bMug 0 (bCons (eC (.int 6)) bNil)))) aNil))) (mTup 2 (mCons (mName 1) (mCons (mName 2) mNil)))) (sSeq (sSet 3 (eFn fm__law_count (bCons (eVar 1) (bCons (eVar 2) bNil)))) (sSeq (sSet 4 (eIf (mT (eOp2 fGt (eVar 3) (eC (.int 300)))) (eLst (aCons (eC (.str "too many")) (aCons (eCall fRepr (aCons (eVar 3) aNil)) aNil))) (eLst (aCons (eC (.str "told")) (aCons (eCall fRepr (aCons (eFn fm__law_walks (bCons (eVar 1) (bCons (eVar 2) bNil))) aNil)) aNil))))) (sSeq (sIf (mOr (mT (eOp2 fNe (eFn fm__law_told (bCons (eVar 1) (bCons (eVar 2) bNil))) (eVar 4))) (mT (eOp2 fIsN (eFn fm_is_weather (bCons (eVar 1) bNil)) (eC (.bool true))))) (sRet (eC (.bool false))) sPass) (sSeq (sSet 5 (eOp2 fAdd (eC (.int 1)) (eFnM fm__law_dip (bMug 0 (bCons (eC (.int 2)) bNil))))) (sSeq (sIf (mT (eOp2 fNe (eCall fRepr (aCons (eFn fm_words (bCons (eVar 1) (bCons (eVar 5) bNil))) aNil)) (eCall fRepr (aCons (eFn fm__law_walks (bCons (eVar 1) (bCons (eVar 5) bNil))) aNil)))) (sRet (eC (.bool false))) sPass) (sSeq (sSet 6 (eFnM fm__law_walked (bMug 0 (bCons (eVar 1) (bCons (eFnM fm__law_dip (bMug 0 (bCons (eC (.int 13)) bNil))) bNil))))) (sSeq (sSet 7 (eLst (aCons (eTup aNil) (aCons (eVar 6) (aCons (eFnM fm__law_bent (bMug 0 (bCons (eVar 6) bNil))) (aCons (eFnM fm__law_bent (bMug 0 (bCons (eVar 6) bNil))) (aCons (eFnM fm__law_bent (bMug 0 (bCons (eCut (eVar 6) oNo (oSo (eC (.int 2)))) bNil))) (aCons (eFnM fm__law_odd (bMug 0 bNil)) aNil)))))))) (sSeq (sSet 8 (eOp2 fAdd (eComp [9] (iSeq (eVar 7)) (mName 9) mYes (eFn fm_is_word (bCons (eVar 1) (bCons (eVar 9) bNil)))) (eLst (aCons (eFn fm_is_word (bCons (eVar 1) (bCons (eVar 6) bNil))) aNil)))) (sRet (eOp2 fEq (eCall fRepr (aCons (eVar 8) aNil)) (eCall fRepr (aCons (eOp2 fAdd (eComp [9] (iSeq (eVar 7)) (mName 9) mYes (eFn fm__law_follows (bCons (eVar 1) (bCons (eVar 9) bNil)))) (eLst (aCons (eC (.bool true)) aNil))) aNil)))))))))))))
theorem ok__law_right (S : Says fc fn K mg) : FnX P w K mg base 8 false "_law_right" p__law_right fm__law_right := by
  have c__law_bent := ok__law_bent (P := P) (w := w) (base := base) S
  have c__law_count := ok__law_count (P := P) (w := w) (base := base) S
  have c__law_dip := ok__law_dip (P := P) (w := w) (base := base) S
  have c__law_follows := ok__law_follows (P := P) (w := w) (base := base) S
  have c__law_odd := ok__law_odd (P := P) (w := w) (base := base) S
  have c__law_pick := ok__law_pick (P := P) (w := w) (base := base) S
  have c__law_sky := ok__law_sky (P := P) (w := w) (base := base) S
  have c__law_told := ok__law_told (P := P) (w := w) (base := base) S
  have c__law_walked := ok__law_walked (P := P) (w := w) (base := base) S
  have c__law_walks := ok__law_walks (P := P) (w := w) (base := base) S
  have c_is_weather := ok_is_weather (P := P) (w := w) (base := base) S
  have c_is_word := ok_is_word (P := P) (w := w) (base := base) S
  have c_words := ok_words (P := P) (w := w) (base := base) S
  obtain ⟨fd, F⟩ := S.defn 22 (d := d__law_right) rfl
  refine fnX_of (k := 7) F sc__law_right (S.glo 48 rfl) (fun _ _ _ _ _ _ us hl => match us, hl with | [_], _ => rfl) (fun h => nomatch h) fun cdv A outer s H E hr gd => ?_
  exact (dss_cons (ds_asg (de_tup (da_cons (dx_fnM c__law_sky hr (by decide) gd (takes_of rfl rfl rfl rfl) (db_mug (i := 0) rfl (.inl rfl) rfl rfl (db_cons (dx_fnM c__law_pick hr (by decide) gd (takes_of rfl rfl rfl rfl) (db_mug (i := 0) rfl (.inl rfl) rfl rfl (db_cons (de_lst (da_cons de_int (da_cons de_int da_nil rfl) rfl)) db_nil rfl) rfl) (ln_mug (ln_cons ln_nil)) rfl rfl rfl rfl) db_nil rfl) rfl) (ln_mug (ln_cons ln_nil)) rfl rfl rfl rfl) (da_cons (xAdd de_int (dx_fnM c__law_dip hr (by decide) gd (takes_of rfl rfl rfl rfl) (db_mug (i := 0) rfl (.inl rfl) rfl rfl (db_cons de_int db_nil rfl) rfl) (ln_mug (ln_cons ln_nil)) rfl rfl rfl rfl)) da_nil rfl) rfl)) (dg_tup rfl (dgs_cons (dg_name (i := 1) sc__law_right.nd rfl (.inr rfl) (.inl rfl)) (dgs_cons (dg_name (i := 2) sc__law_right.nd rfl (.inl rfl) (.inr rfl)) dgs_nil rfl) rfl) rfl rfl) rfl rfl rfl) (dss_cons (ds_set (i := 3) sc__law_right.nd rfl (.inl rfl) (dx_fn c__law_count hr (by decide) gd (takes_of rfl rfl rfl rfl) (db_cons (de_var (i := 1) rfl (.inr (.inl rfl)) rfl rfl) (db_cons (de_var (i := 2) rfl (.inl rfl) rfl rfl) db_nil rfl) rfl) (nom_cons (nom_cons nom_nil)) rfl rfl rfl rfl rfl) rfl (.inr rfl)) (dss_cons (ds_set (i := 4) sc__law_right.nd rfl (.inl rfl) (de_if (tGt (de_var (i := 3) rfl (.inl rfl) rfl rfl) de_int) (de_lst (da_cons de_str (da_cons (bx_repr gd hr.units (S.free 16 rfl) (da_cons (de_var (i := 3) rfl (.inl rfl) rfl rfl) da_nil rfl) rfl rfl rfl) da_nil rfl) rfl)) (de_lst (da_cons de_str (da_cons (bx_repr gd hr.units (S.free 16 rfl) (da_cons (dx_fn c__law_walks hr (by decide) gd (takes_of rfl rfl rfl rfl) (db_cons (de_var (i := 1) rfl (.inr (.inl rfl)) rfl rfl) (db_cons (de_var (i := 2) rfl (.inl rfl) rfl rfl) db_nil rfl) rfl) (nom_cons (nom_cons nom_nil)) rfl rfl rfl rfl rfl) da_nil rfl) rfl rfl rfl) da_nil rfl) rfl))) rfl (.inr rfl)) (dss_cons (ds_if (dt_of (dw_or (tNe hr.units (dx_fn c__law_told hr (by decide) gd (takes_of rfl rfl rfl rfl) (db_cons (de_var (i := 1) rfl (.inr (.inl rfl)) rfl rfl) (db_cons (de_var (i := 2) rfl (.inl rfl) rfl rfl) db_nil rfl) rfl) (nom_cons (nom_cons nom_nil)) rfl rfl rfl rfl rfl) (de_var (i := 4) rfl (.inl rfl) rfl rfl)) (dw_or1 (tIsN (dx_fn c_is_weather hr (by decide) gd (takes_of rfl rfl rfl rfl) (db_cons (de_var (i := 1) rfl (.inr (.inl rfl)) rfl rfl) db_nil rfl) (nom_cons nom_nil) rfl rfl rfl rfl rfl) de_bl)))) (dss_one (ds_ret de_bl)) dss_nil) (dss_cons (ds_set (i := 5) sc__law_right.nd rfl (.inl rfl) (xAdd de_int (dx_fnM c__law_dip hr (by decide) gd (takes_of rfl rfl rfl rfl) (db_mug (i := 0) rfl (.inl rfl) rfl rfl (db_cons de_int db_nil rfl) rfl) (ln_mug (ln_cons ln_nil)) rfl rfl rfl rfl)) rfl (.inr rfl)) (dss_cons (ds_if (tNe hr.units (bx_repr gd hr.units (S.free 16 rfl) (da_cons (dx_fnK c_words hr (by decide) gd (takes_of rfl rfl rfl rfl) (dk_cons (de_var (i := 1) rfl (.inr (.inl rfl)) rfl rfl) (dk_cons (de_var (i := 5) rfl (.inl rfl) rfl rfl) dk_nil)) (nom_cons (nom_cons nom_nil)) rfl rfl rfl rfl rfl) da_nil rfl) rfl rfl rfl) (bx_repr gd hr.units (S.free 16 rfl) (da_cons (dx_fn c__law_walks hr (by decide) gd (takes_of rfl rfl rfl rfl) (db_cons (de_var (i := 1) rfl (.inr (.inl rfl)) rfl rfl) (db_cons (de_var (i := 5) rfl (.inl rfl) rfl rfl) db_nil rfl) rfl) (nom_cons (nom_cons nom_nil)) rfl rfl rfl rfl rfl) da_nil rfl) rfl rfl rfl)) (dss_one (ds_ret de_bl)) dss_nil) (dss_cons (ds_set (i := 6) sc__law_right.nd rfl (.inl rfl) (dx_fnM c__law_walked hr (by decide) gd (takes_of rfl rfl rfl rfl) (db_mug (i := 0) rfl (.inl rfl) rfl rfl (db_cons (de_var (i := 1) rfl (.inr (.inl rfl)) rfl rfl) (db_cons (dx_fnM c__law_dip hr (by decide) gd (takes_of rfl rfl rfl rfl) (db_mug (i := 0) rfl (.inl rfl) rfl rfl (db_cons de_int db_nil rfl) rfl) (ln_mug (ln_cons ln_nil)) rfl rfl rfl rfl) db_nil rfl) rfl) rfl) (ln_mug (ln_cons (ln_cons ln_nil))) rfl rfl rfl rfl) rfl (.inr rfl)) (dss_cons (ds_set (i := 7) sc__law_right.nd rfl (.inl rfl) (de_lst (da_cons (de_tup da_nil) (da_cons (de_var (i := 6) rfl (.inl rfl) rfl rfl) (da_cons (dx_fnM c__law_bent hr (by decide) gd (takes_of rfl rfl rfl rfl) (db_mug (i := 0) rfl (.inl rfl) rfl rfl (db_cons (de_var (i := 6) rfl (.inl rfl) rfl rfl) db_nil rfl) rfl) (ln_mug (ln_cons ln_nil)) rfl rfl rfl rfl) (da_cons (dx_fnM c__law_bent hr (by decide) gd (takes_of rfl rfl rfl rfl) (db_mug (i := 0) rfl (.inl rfl) rfl rfl (db_cons (de_var (i := 6) rfl (.inl rfl) rfl rfl) db_nil rfl) rfl) (ln_mug (ln_cons ln_nil)) rfl rfl rfl rfl) (da_cons (dx_fnM c__law_bent hr (by decide) gd (takes_of rfl rfl rfl rfl) (db_mug (i := 0) rfl (.inl rfl) rfl rfl (db_cons (de_cut (de_var (i := 6) rfl (.inl rfl) rfl rfl) do_no (do_so de_int)) db_nil rfl) rfl) (ln_mug (ln_cons ln_nil)) rfl rfl rfl rfl) (da_cons (dx_fnM c__law_odd hr (by decide) gd (takes_of rfl rfl rfl rfl) (db_mug (i := 0) rfl (.inl rfl) rfl rfl db_nil rfl) (ln_mug ln_nil) rfl rfl rfl rfl) da_nil rfl) rfl) rfl) rfl) rfl) rfl)) rfl (.inr rfl)) (dss_cons (ds_set (i := 8) sc__law_right.nd rfl (.inl rfl) (xAdd (de_comp (own := [("_law_each", 9)]) rfl sc__law_right.nd (di_seq (de_var (i := 7) rfl (.inl rfl) rfl rfl)) (blk_ok (by kernel_rfl)) (by decide) (fun _ _ _ _ _ => (dg_name (i := 9) sc__law_right.nd rfl (.inl rfl) (.inr rfl))) (fun _ _ _ _ _ => dts_nil) (fun _ _ _ _ _ => (dx_fn c_is_word hr (by decide) gd takes0 (db_cons (de_var (i := 1) rfl (.inr (.inl rfl)) rfl rfl) (db_cons (de_var (i := 9) rfl (.inl rfl) rfl rfl) db_nil rfl) rfl) (nom_cons (nom_cons nom_nil)) rfl rfl rfl rfl rfl)) (fun _ => rfl)) (de_lst (da_cons (dx_fnK c_is_word hr (by decide) gd (takes_of rfl rfl rfl rfl) (dk_cons (de_var (i := 1) rfl (.inr (.inl rfl)) rfl rfl) (dk_cons (de_var (i := 6) rfl (.inl rfl) rfl rfl) dk_nil)) (nom_cons (nom_cons nom_nil)) rfl rfl rfl rfl rfl) da_nil rfl))) rfl (.inr rfl)) (dss_one (ds_ret (xEq hr.units (bx_repr gd hr.units (S.free 16 rfl) (da_cons (de_var (i := 8) rfl (.inl rfl) rfl rfl) da_nil rfl) rfl rfl rfl) (bx_repr gd hr.units (S.free 16 rfl) (da_cons (xAdd (de_comp (own := [("_law_each", 9)]) rfl sc__law_right.nd (di_seq (de_var (i := 7) rfl (.inl rfl) rfl rfl)) (blk_ok (by kernel_rfl)) (by decide) (fun _ _ _ _ _ => (dg_name (i := 9) sc__law_right.nd rfl (.inl rfl) (.inr rfl))) (fun _ _ _ _ _ => dts_nil) (fun _ _ _ _ _ => (dx_fn c__law_follows hr (by decide) gd takes0 (db_cons (de_var (i := 1) rfl (.inr (.inl rfl)) rfl rfl) (db_cons (de_var (i := 9) rfl (.inl rfl) rfl rfl) db_nil rfl) rfl) (nom_cons (nom_cons nom_nil)) rfl rfl rfl rfl rfl)) (fun _ => rfl)) (de_lst (da_cons de_bl da_nil rfl))) da_nil rfl) rfl rfl rfl)))))))))))))
noncomputable def fm_law : FM := bodyM 2 (sRet (eCall fAll (aCons (eComp [1] (iRange1 (aCons (eCall fMax (aCons (eC (.int 1)) (aCons (eCall fMin (aCons (eCall fLen (aCons (eVar 0) aNil)) (aCons (eC (.int 3)) aNil))) aNil))) aNil)) (mName 1) mYes (eFnNew fm__law_right fm__law_mug (bCons (eVar 0) (bCons (eVar 1) bNil)))) aNil)))
theorem ok_law (S : Says fc fn K mg) : FnX P w K mg base 9 false "law" p_law fm_law := by
  have c__law_mug := ok__law_mug (P := P) (w := w) (base := base) S
  have c__law_right := ok__law_right (P := P) (w := w) (base := base) S
  obtain ⟨fd, F⟩ := S.defn 23 (d := d_law) rfl
  refine fnX_of (k := 8) F sc_law (S.glo 49 rfl) (fun _ _ _ _ _ _ us hl => match us, hl with | [_], _ => rfl) (fun h => nomatch h) fun cdv A outer s H E hr gd => ?_
  exact (dss_one (ds_ret (bx_all rfl (S.free 8 rfl) (da_cons (de_comp (own := [("_law_lap", 1)]) rfl sc_law.nd (di_range1 rfl (S.free 10 rfl) (da_cons (bx_max rfl (S.free 25 rfl) (da_cons de_int (da_cons (bx_min rfl (S.free 24 rfl) (da_cons (bx_len (S.free 4 rfl) (da_cons (de_var (i := 0) rfl (.inr (.inl rfl)) rfl rfl) da_nil rfl) rfl rfl rfl) (da_cons de_int da_nil rfl) rfl) rfl rfl rfl) da_nil rfl) rfl) rfl rfl rfl) da_nil rfl) rfl) (blk_ok (by kernel_rfl)) (by decide) (fun _ _ _ _ _ => (dg_name (i := 1) sc_law.nd rfl (.inl rfl) (.inr rfl))) (fun _ _ _ _ _ => dts_nil) (fun _ _ _ _ _ => (dx_fnNew c__law_right c__law_mug hr (by decide) (by decide) gd takes0 (db_cons (de_var (i := 0) rfl (.inr (.inl rfl)) rfl rfl) (db_cons (de_var (i := 1) rfl (.inl rfl) rfl rfl) db_nil rfl) rfl) (ln_cons (ln_cons ln_nil)) rfl rfl rfl rfl rfl rfl rfl)) (fun _ => rfl)) da_nil rfl) rfl rfl rfl)))
end
abbrev R0 : PySem.W.OpenRow := PySem.W.OpenLaw.row PySem.Challenge.rw_windfigure_k73_whole_words_of_weathers
abbrev hk : PySem.W.Hook := hookW 6 fc fn
def ob (s : PySem.W.SharedT) : He.AlD := obsWG 6 fc fn (HandSHeadRun.getT s)
theorem ob_eq (s : PySem.W.SharedT) : ob s = hk.obs s.abs := obsWG_eq (HandSHeadRun.getT_eq s)
def loose : List PySem.Str := ["WindError", "InvalidWeather", "InvalidNumber", "TooMany", "is_whole", "is_between", "MOST_STATES", "MOST_WINDS", "MOST_HOURS", "MOST_WORDS", "is_state", "is_weather", "check_weather", "check_many", "count_words", "words", "is_word", "_law_mug", "_law_dip", "_law_pick", "_law_sky", "_law_after", "_law_is_int", "_law_follows", "_law_walked", "_law_odd", "_law_count", "_law_walks", "_law_told", "_law_bent", "_law_right"]
theorem run (w : World) : HandSHeadRun.RunEq R0 (PySem.W.view R0.prog [35]) hk ob 3000 loose w := by
  intro os
  kernel_rfl
end Wf.Law
/-! The plain law of k73: what the defs compute. -/
namespace Wf.Law
open PySem L2 Wf

/-- the drawn list, after at most n draws -/
def Mg (n : Nat) (mu : Mu) : Prop := ∃ a b c : Int, mu = [.int a, .int b, .int c] ∧ 0 ≤ a ∧ 0 ≤ b ∧ b < 2147483543 ∧ 0 ≤ c ∧ c ≤ n
theorem Mg.mono {n m : Nat} {mu : Mu} (h : Mg n mu) (hl : n ≤ m) : Mg m mu := by
  obtain ⟨a, b, c, e, h1, h2, h3, h4, h5⟩ := h
  exact ⟨a, b, c, e, h1, h2, h3, h4, by omega⟩
theorem nat_small {a : Int} (h0 : 0 ≤ a) (h : a < 2 ^ 64) : a.natAbs < 2 ^ 1000 := by
  have e : a.natAbs < 2 ^ 64 := by omega
  exact Nat.lt_of_lt_of_le e (Nat.pow_le_pow_right (by decide) (by decide))
theorem dip_ok {n : Nat} {mu : Mu} {k : Int} (h : Mg n mu) (hn : n ≤ 1000000000) (h0 : 0 < k) (h1 : k < 1073741824) :
    ∃ (r : Int) (mu' : Mu), fm__law_dip [.mug, .val (.int k)] mu = .ok (.int r) mu' ∧ 0 ≤ r ∧ r < k ∧ Mg (n + 1) mu' := by
  obtain ⟨a, b, c, rfl, ha, hb, hb2, hc, hcn⟩ := h
  by_cases h : 0 < a
  · refine ⟨a % k, [.int (a / k), .int b, .int c], ?_, Int.emod_nonneg _ (by omega), Int.emod_lt_of_pos _ h0, _, _, _, rfl, Int.ediv_nonneg ha (by omega), hb, hb2, hc, by omega⟩
    refine body_rt ?_
    simp [eMug, eVar, h, f_divmod h0 h1, mMug, lf, setSl]
  · have m1 : fMod (.int b) (.int 29989) = some (.int (b.fmod 29989)) := f_mod (by decide)
    have e1 : b.fmod 29989 = b % 29989 := Int.fmod_eq_emod_of_nonneg _ (by decide)
    have r1 := Int.emod_nonneg b (show (29989 : Int) ≠ 0 by decide)
    have r2 := Int.emod_lt_of_pos b (show (0 : Int) < 29989 by decide)
    rw [e1] at m1
    generalize hf : b % 29989 + 20011 = fac at *
    have hf1 : 0 ≤ fac := by omega
    have hf2 : fac < 50000 := by omega
    have m2 : fMul (.int b) (.int fac) = some (.int (b * fac)) := f_mul (nat_small (by omega) (by omega)) (nat_small (by omega) (by omega))
    have m3 : fMul (.int 50021) (.int (c + 1)) = some (.int (50021 * (c + 1))) := f_mul (by decide) (nat_small (by omega) (by omega))
    generalize hb1 : (b * fac + 50021 * (c + 1) + 7).fmod 2147483543 = b1 at *
    have m4 : fMod (.int (b * fac + 50021 * (c + 1) + 7)) (.int 2147483543) = some (.int b1) := by
      rw [← hb1]
      exact f_mod (by decide)
    have hb3 : 0 ≤ b1 ∧ b1 < 2147483543 := by
      rw [← hb1, Int.fmod_eq_emod_of_nonneg _ (by decide)]
      exact ⟨Int.emod_nonneg _ (by decide), Int.emod_lt_of_pos _ (by decide)⟩
    have m5 : fDiv (.int b1) (.int 89) = some (.int (b1.fdiv 89)) := f_div (by decide) (by decide)
    have m6 : fMod (.int (b1.fdiv 89)) (.int k) = some (.int ((b1.fdiv 89).fmod k)) := f_mod (by omega)
    refine ⟨(b1.fdiv 89).fmod k, [.int a, .int b1, .int (c + 1)], ?_, ?_, ?_, _, _, _, rfl, ha, hb3.1, hb3.2, by omega, by omega⟩
    · refine body_rt ?_
      simp [eMug, eVar, h, mMug, lf, setSl, m1, hf, m2, m3, m4, m5, m6]
    · rw [Int.fmod_eq_emod_of_nonneg _ (by omega)]
      exact Int.emod_nonneg _ (by omega)
    · rw [Int.fmod_eq_emod_of_nonneg _ (by omega)]
      exact Int.emod_lt_of_pos _ h0
theorem pick_ok {n : Nat} {mu : Mu} {ds : List D} {s : D} (hs : s = .list ds ∨ s = .tuple ds) (h : Mg n mu) (hn : n ≤ 1000000000) (h0 : 0 < ds.length) (h1 : ds.length < 1073741824) :
    ∃ (d : D) (mu' : Mu), fm__law_pick [.mug, .val s] mu = .ok d mu' ∧ d ∈ ds ∧ Mg (n + 1) mu' := by
  obtain ⟨r, mu', e, r0, r1, h'⟩ := dip_ok (k := (ds.length : Int)) h hn (by omega) (by omega)
  have hr : r.toNat < ds.length := by omega
  have ha : atI ds r = some ds[r.toNat] := atI_of r0 (List.getElem?_eq_getElem hr)
  refine ⟨ds[r.toNat], mu', ?_, List.getElem_mem hr, h'⟩
  refine body_rt ?_
  rcases hs with rfl | rfl
  · simp [eVar, bMug, e, ha]
  · simp [eVar, bMug, e, ha]

/-! ### skies -/
abbrev Sky := List (List (Int × Int))
def duoD (p : Int × Int) : D := .tuple [.int p.1, .int p.2]
def rowD (r : List (Int × Int)) : D := .tuple (r.map duoD)
def skyD (s : Sky) : D := .tuple (s.map rowD)
/-- m states -/
structure RowOk (m : Nat) (r : List (Int × Int)) : Prop where
  pos : 0 < r.length
  few : r.length ≤ 4
  nd : (r.map (·.1)).Nodup
  winds : ∀ p ∈ r, 0 ≤ p.1 ∧ p.1 < 4
  goals : ∀ p ∈ r, 0 ≤ p.2 ∧ p.2 < m
structure SkyOk (s : Sky) : Prop where
  pos : 0 < s.length
  few : s.length ≤ 3
  rows : ∀ r ∈ s, RowOk s.length r
theorem setSl_at {g : Gm} {i : Nat} {s t : Sl} (h : g[i]? = some t) (ht : t ≠ .mug) : setSl g i s = some (g.set i s) := by
  unfold setSl
  rw [h]
  cases t with
  | mug => exact absurd rfl ht
  | _ => rfl
/-- a row of the sky is drawn: its pairs so far, the winds that are left -/
structure Drawn (many : Int) (i : Nat) (row : List (Int × Int)) (pool : List Int) : Prop where
  len : row.length = i
  plen : pool.length + i = 4
  nd : (row.map (·.1) ++ pool).Nodup
  winds : ∀ x ∈ row.map (·.1) ++ pool, 0 ≤ x ∧ x < 4
  goals : ∀ p ∈ row, 0 ≤ p.2 ∧ p.2 < many
theorem Drawn.next {many : Int} {i : Nat} {row : List (Int × Int)} {pool : List Int} (h : Drawn many i row pool) {j : Nat} {x y : Int} (hx : pool[j]? = some x) (hy : 0 ≤ y ∧ y < many) : Drawn many (i + 1) (row ++ [(x, y)]) (pool.eraseIdx j) := by
  have hj := (List.getElem?_eq_some_iff.mp hx).1
  have hxe := (List.getElem?_eq_some_iff.mp hx).2
  have pm : (x :: pool.eraseIdx j).Perm pool := by
    have e : pool = pool.take j ++ x :: pool.drop (j + 1) := by
      rw [← hxe, ← List.drop_eq_getElem_cons hj, List.take_append_drop]
    rw [List.eraseIdx_eq_take_drop_succ]
    conv => rhs; rw [e]
    exact List.perm_middle.symm
  have pm2 : ((row ++ [(x, y)]).map (·.1) ++ pool.eraseIdx j).Perm (row.map (·.1) ++ pool) := by
    rw [List.map_append, List.append_assoc]
    exact List.Perm.append_left _ pm
  refine ⟨by rw [List.length_append, h.len]; rfl, ?_, pm2.nodup_iff.mpr h.nd, fun z hz => h.winds z (pm2.mem_iff.mp hz), fun p hp => ?_⟩
  · rw [List.length_eraseIdx, if_pos hj]
    have := h.plen
    omega
  · rcases List.mem_append.mp hp with hp | hp
    · exact h.goals p hp
    · rw [List.mem_singleton.mp hp]; exact hy
theorem Drawn.start (many : Int) : Drawn many 0 [] [0, 1, 2, 3] := ⟨rfl, rfl, by decide, by decide, fun p h => absurd h List.not_mem_nil⟩
theorem Drawn.row {m i : Nat} {row : List (Int × Int)} {pool : List Int} (h : Drawn m i row pool) (hi : 0 < i) : RowOk m row := by
  refine ⟨by rw [h.len]; exact hi, by rw [h.len]; have := h.plen; omega, (List.nodup_append.mp h.nd).1, fun p hp => ?_, h.goals⟩
  exact h.winds p.1 (List.mem_append_left _ (List.mem_map.mpr ⟨p, hp, rfl⟩))
theorem lfA_row : ∀ row : List (Int × Int), lfA (row.map duoD) = true
  | [] => rfl
  | p :: r => by
    rw [List.map_cons]
    unfold lfA
    rw [lfA_row r]
    rfl
theorem line4 : (4 : Nat) < lineN := by decide
theorem turn_ok {n : Nat} {mu : Mu} {most : D} {m i : Nat} {fs : List D} {t4 t7 : Sl} {row : List (Int × Int)} {pool : List Int} (hD : Drawn m i row pool) (hi : i < 4) (hm : 1 ≤ m ∧ m ≤ 3) (h : Mg n mu) (hn : n ≤ 900000000) :
    ∃ (row2 : List (Int × Int)) (pool2 : List Int) (mu' : Mu), sAppPop 6 5 (eBor 5 (eFnM fm__law_dip (bMug 0 (bCons (eCall fLen (aCons (eVar 5) aNil)) bNil)))) (eFnM fm__law_dip (bMug 0 (bCons (eVar 2) bNil)))
      [.mug, .val most, .val (.int m), .own fs, t4, .own (pool.map PyData.int), .own (row.map duoD), t7] mu = .nx [.mug, .val most, .val (.int m), .own fs, t4, .own (pool2.map PyData.int), .own (row2.map duoD), t7] mu' ∧ Drawn m (i + 1) row2 pool2 ∧ Mg (n + 2) mu' := by
  have hp := hD.plen
  obtain ⟨r, mu1, e1, r0, r1, h1⟩ := dip_ok (k := (pool.length : Int)) h (by omega) (by omega) (by omega)
  obtain ⟨y, mu2, e2, y0, y1, h2⟩ := dip_ok (k := (m : Int)) h1 (by omega) (by omega) (by omega)
  have hr : r.toNat < pool.length := by omega
  have hx : pool[r.toNat]? = some pool[r.toNat] := List.getElem?_eq_getElem hr
  have hl : row.length < lineN := by rw [hD.len]; exact Nat.lt_trans hi line4
  have r63 : r < 9223372036854775808 := by omega
  refine ⟨row ++ [(pool[r.toNat], y)], pool.eraseIdx r.toNat, mu2, ?_, hD.next hx ⟨y0, y1⟩, h2⟩
  have em : (pool.map PyData.int)[r.toNat]? = some (.int pool[r.toNat]) := by rw [List.getElem?_map, hx]; rfl
  have ee : (pool.map PyData.int).eraseIdx r.toNat = (pool.eraseIdx r.toNat).map PyData.int := by
    simp [List.eraseIdx_eq_take_drop_succ, List.map_take, List.map_drop]
  simp [sAppPop, eBor, lend, eVar, bMug, e1, e2, lf, r0, r63, hl, hx, ee, duoD]
theorem sky_ok {n : Nat} {mu : Mu} {most : Int} (hm : 1 ≤ most ∧ most ≤ 4) (h : Mg n mu) (hn : n ≤ 800000000) :
    ∃ (s : Sky) (mu' : Mu), fm__law_sky [.mug, .val (.int most)] mu = .ok (skyD s) mu' ∧ SkyOk s ∧ Mg (n + 28) mu' := by
  obtain ⟨d, mu1, e1, hd, h1⟩ := pick_ok (ds := [.int 1, .int 1, .int 2, .int 2, .int 3]) (.inl rfl) h (by omega) (by simp) (by simp)
  obtain ⟨m, rfl, hm1, hm2⟩ : ∃ m : Nat, d = .int (m : Int) ∧ 1 ≤ m ∧ m ≤ 3 := by
    simp only [List.mem_cons, List.not_mem_nil, or_false] at hd
    rcases hd with rfl | rfl | rfl | rfl | rfl
    · exact ⟨1, rfl, by decide, by decide⟩
    · exact ⟨1, rfl, by decide, by decide⟩
    · exact ⟨2, rfl, by decide, by decide⟩
    · exact ⟨2, rfl, by decide, by decide⟩
    · exact ⟨3, rfl, by decide, by decide⟩
  -- the laps
  have laps := forS_inv (gm := mName 4) (enc := fun (i : Nat) => PyData.int (i : Int)) (body := sSeq (sParO [5, 6] (pOwn (aCons (eC (.int 0)) (aCons (eC (.int 1)) (aCons (eC (.int 2)) (aCons (eC (.int 3)) aNil)))) (pOwn aNil pNil))) (sSeq (sFor (iRange1 (aCons (eOp2 fAdd (eC (.int 1)) (eFnM fm__law_dip (bMug 0 (bCons (eVar 1) bNil)))) aNil)) (mName 7) (sAppPop 6 5 (eBor 5 (eFnM fm__law_dip (bMug 0 (bCons (eCall fLen (aCons (eVar 5) aNil)) bNil)))) (eFnM fm__law_dip (bMug 0 (bCons (eVar 2) bNil))))) (sApp 3 (eBor 6 (eCall fTuple (aCons (eVar 6) aNil))))))
    (fun i g mu => ∃ (rows : Sky) (t4 t5 t6 t7 : Sl), g = [.mug, .val (.int most), .val (.int m), .own (rows.map rowD), t4, t5, t6, t7] ∧ t4 ≠ .mug ∧ t5 ≠ .mug ∧ t6 ≠ .mug ∧ t7 ≠ .mug ∧ rows.length = i ∧ (∀ r ∈ rows, RowOk m r) ∧ Mg (n + 1 + 9 * i) mu)
    (List.range m) 0 [.mug, .val (.int most), .val (.int m), .own [], .no, .no, .no, .no] mu1 ⟨[], .no, .no, .no, .no, rfl, by simp, by simp, by simp, by simp, rfl, fun r h => absurd h List.not_mem_nil, h1⟩ ?_
  · obtain ⟨g', mu', e2, rows, t4, t5, t6, t7, rfl, _, _, _, _, hl, hr, h2⟩ := laps
    rw [List.length_range, Nat.zero_add] at hl h2
    have hrange := iRange1_ok (am := aCons (eVar 2) aNil) (g := [.mug, .val (.int most), .val (.int m), .own [], .no, .no, .no, .no]) (mu := mu1) (mu1 := mu1) (n := m) (by simp [eVar]) (by omega)
    refine ⟨rows, mu', ?_, ⟨by omega, by omega, fun r hm => by rw [hl]; exact hr r hm⟩, h2.mono (by omega)⟩
    refine body_rt ?_
    have hs0 : setSls [.mug, .val (.int most), .no, .no, .no, .no, .no, .no] [2, 3] [.val (.int m), .own []] = some [.mug, .val (.int most), .val (.int m), .own [], .no, .no, .no, .no] := rfl
    have hA : sParO [2, 3] (pVal (eFnM fm__law_pick (bMug 0 (bCons (eLst (aCons (eC (.int 1)) (aCons (eC (.int 1)) (aCons (eC (.int 2)) (aCons (eC (.int 2)) (aCons (eC (.int 3)) aNil)))))) bNil))) (pOwn aNil pNil)) [.mug, .val (.int most), .no, .no, .no, .no, .no, .no] mu = .nx [.mug, .val (.int most), .val (.int m), .own [], .no, .no, .no, .no] mu1 := by
      simp [bMug, e1, hs0, le_line]
    have hB : sFz 3 (sRet (eCall fTuple (aCons (eVar 3) aNil))) [.mug, .val (.int most), .val (.int m), .own (rows.map rowD), t4, t5, t6, t7] mu' = .rt (skyD rows) mu' := by
      simp [sFz, eVar, skyD]
    show sSeq _ (sSeq _ _) [.mug, .val (.int most), .no, .no, .no, .no, .no, .no] mu = _
    rw [q_seq, hA, seq_nx, q_seq, q_for, hrange, toS_ok, e2, seq_nx, hB]
  · intro i x g mu hx hI
    obtain ⟨rows, t4, t5, t6, t7, rfl, n4, n5, n6, n7, hl, hr, hM⟩ := hI
    have hi : i < m := by
      have := (List.getElem?_eq_some_iff.mp hx).1
      simpa using this
    rw [Nat.zero_add] at hl hM ⊢
    obtain ⟨y, mu3, e3, y0, y1, h3⟩ := dip_ok (k := most) hM (by omega) (by omega) (by omega)
    have hy : (1 : Int) + y = ((y.toNat + 1 : Nat) : Int) := by omega
    have turns := forS_inv (gm := mName 7) (enc := fun (i : Nat) => PyData.int (i : Int)) (body := sAppPop 6 5 (eBor 5 (eFnM fm__law_dip (bMug 0 (bCons (eCall fLen (aCons (eVar 5) aNil)) bNil)))) (eFnM fm__law_dip (bMug 0 (bCons (eVar 2) bNil))))
      (fun j g mu => ∃ (row : List (Int × Int)) (pool : List Int) (t7 : Sl), g = [.mug, .val (.int most), .val (.int m), .own (rows.map rowD), .val (.int x), .own (pool.map PyData.int), .own (row.map duoD), t7] ∧ t7 ≠ .mug ∧ Drawn m j row pool ∧ Mg (n + 1 + 9 * i + 1 + 2 * j) mu)
      (List.range (y.toNat + 1)) 0 [.mug, .val (.int most), .val (.int m), .own (rows.map rowD), .val (.int x), .own [.int 0, .int 1, .int 2, .int 3], .own [], t7] mu3 ⟨[], [0, 1, 2, 3], t7, rfl, n7, Drawn.start m, h3⟩ ?_
    · obtain ⟨g', mu', e4, row, pool, t7', rfl, n7', hD, h4⟩ := turns
      rw [List.length_range, Nat.zero_add] at hD h4
      have hrange := iRange1_ok (am := aCons (eOp2 fAdd (eC (.int 1)) (eFnM fm__law_dip (bMug 0 (bCons (eVar 1) bNil)))) aNil) (g := [.mug, .val (.int most), .val (.int m), .own (rows.map rowD), .val (.int x), .own [.int 0, .int 1, .int 2, .int 3], .own [], t7]) (mu := mu) (mu1 := mu3) (n := y.toNat + 1) (by simp [eVar, bMug, e3, hy]) (by omega)
      refine ⟨[.mug, .val (.int most), .val (.int m), .own (rows.map rowD), .val (.int x), t5, t6, t7], mu, [.mug, .val (.int most), .val (.int m), .own ((rows ++ [row]).map rowD), .val (.int x), .own (pool.map PyData.int), .own (row.map duoD), t7'], mu', ?_, ?_, rows ++ [row], _, _, _, _, rfl, by simp, by simp, by simp, n7', by rw [List.length_append, hl]; rfl, fun r hm => ?_, h4.mono (by omega)⟩
      · rw [q_tname, setSl_at (t := t4) rfl n4]
        rfl
      · have hl5 : rows.length < 1000000 := by omega
        have hs : setSls [.mug, .val (.int most), .val (.int m), .own (rows.map rowD), .val (.int x), t5, t6, t7] [5, 6] [.own [.int 0, .int 1, .int 2, .int 3], .own []] = some [.mug, .val (.int most), .val (.int m), .own (rows.map rowD), .val (.int x), .own [.int 0, .int 1, .int 2, .int 3], .own [], t7] := by
          cases t5 <;> first | exact absurd rfl n5 | (cases t6 <;> first | exact absurd rfl n6 | rfl)
        simp [le_line, lt_line, hs, q_for, hrange, e4, sApp, eBor, lend, eVar, hl5, lf, lfA_row, rowD]
      · rcases List.mem_append.mp hm with hm | hm
        · exact hr r hm
        · rw [List.mem_singleton.mp hm]
          exact hD.row (by omega)
    · intro j z g mu hz hI
      obtain ⟨row, pool, t7, rfl, n7, hD, hM⟩ := hI
      have hj : j < y.toNat + 1 := by
        have := (List.getElem?_eq_some_iff.mp hz).1
        simpa using this
      rw [Nat.zero_add] at hD hM ⊢
      obtain ⟨row2, pool2, mu', e, hD2, hM2⟩ := turn_ok (most := .int most) (fs := rows.map rowD) (t4 := .val (.int x)) (t7 := .val (.int z)) hD (by omega) ⟨hm1, hm2⟩ hM (by omega)
      refine ⟨_, mu, _, mu', ?_, e, row2, pool2, _, rfl, by simp, hD2, hM2.mono (by omega)⟩
      rw [q_tname, setSl_at (t := t7) rfl n7]
      rfl
end Wf.Law
/-! k73: what the program's checks and the law's counts compute. -/
namespace Wf.Law
open PySem L2 Wf

theorem e_int {d : D} {m : EM} {g : Gm} {mu : Mu} (h : m g mu = .ok d mu) (hf : fine d = true) : eIsi "int" m g mu = .ok (.bool (isI d)) mu := isi_of kit_int h hf
theorem e_bool {d : D} {m : EM} {g : Gm} {mu : Mu} (h : m g mu = .ok d mu) (hf : fine d = true) : eIsi "bool" m g mu = .ok (.bool (isB d)) mu := isi_of kit_bool h hf
theorem e_tuple {d : D} {m : EM} {g : Gm} {mu : Mu} (h : m g mu = .ok d mu) (hf : fine d = true) : eIsi "tuple" m g mu = .ok (.bool (isTu d)) mu := isi_of kit_tuple h hf
/-- an int that is no bool -/
def whole : D → Option Int
  | .int i => some i
  | _ => none
theorem whole_ok {d : D} {mu : Mu} (hf : fine d = true) : fm_is_whole [.val d] mu = .ok (.bool (whole d).isSome) mu := by
  refine body_rt ?_
  have h1 := e_int (m := eVar 0) (g := [.val d]) (mu := mu) (d := d) rfl hf
  have h2 := e_bool (m := eVar 0) (g := [.val d]) (mu := mu) (d := d) rfl hf
  cases d <;> simp [h1, h2, isI, isB, whole]
theorem isint_ok {d : D} {mu : Mu} (hf : fine d = true) : fm__law_is_int [.val d] mu = .ok (.bool (whole d).isSome) mu := by
  refine body_rt ?_
  have h1 := e_int (m := eVar 0) (g := [.val d]) (mu := mu) (d := d) rfl hf
  have h2 := e_bool (m := eVar 0) (g := [.val d]) (mu := mu) (d := d) rfl hf
  cases d <;> simp [h1, h2, isI, isB, whole]
def betw (d : D) (lo hi : Int) : Bool := match d with
  | .int i => decide (lo ≤ i) && decide (i ≤ hi)
  | _ => false
theorem between_ok {d : D} {lo hi : Int} {mu : Mu} (hf : fine d = true) : fm_is_between [.val d, .val (.int lo), .val (.int hi)] mu = .ok (.bool (betw d lo hi)) mu := by
  refine body_rt ?_
  have h := whole_ok (mu := []) hf
  cases d with
  | int i =>
    by_cases h1 : lo ≤ i
    · simp [eVar, h, whole, betw, h1]
    · simp [eVar, h, whole, betw, h1]
  | _ => simp [eVar, h, whole, betw]
theorem many_ok {n : Nat} {mu : Mu} (h1 : 1 ≤ n) (h2 : n ≤ 6) : fm_check_many [.val (.int (n : Int))] mu = .ok .none mu := by
  have h := between_ok (d := .int (n : Int)) (lo := 1) (hi := 6) (mu := []) rfl
  have e1 : (1 : Int) ≤ (n : Int) := by omega
  have e2 : (n : Int) ≤ 6 := by omega
  refine body_nx (g := [.val (.int (n : Int))]) ?_
  simp [eVar, h, betw, e1, e2]

/-! ### the weather is one -/
theorem can_ints : ∀ ns : List Int, PyData.canLayAll0 (ns.map PyData.int) = true
  | [] => rfl
  | n :: ns => by
    rw [List.map_cons]
    simp only [PyData.canLayAll0, PyData.canLay0, can_ints ns, Bool.and_self]
theorem dep_ints : ∀ ns : List Int, PyData.depthAll (ns.map PyData.int) ≤ 1
  | [] => by simp [PyData.depthAll]
  | n :: ns => by
    rw [List.map_cons]
    have := dep_ints ns
    simp only [PyData.depthAll, PyData.depth]
    omega
theorem eqv_int (a b : Int) : PyData.eqv (.int a) (.int b) = decide (a = b) := by
  have e : PyData.eqv (.int a) (.int b) = (a == b) := by simp [PyData.eqv]
  rw [e]
  exact Bool.eq_iff_iff.mpr (by simp)
theorem eq_int (a b : Int) : fEq (.int a) (.int b) = some (.bool (decide (a = b))) := by
  unfold fEq
  rw [eqv_int]
  simp [PyData.canLay0, PyData.depth]
theorem ne_int (a b : Int) : fNe (.int a) (.int b) = some (.bool (!decide (a = b))) := by
  unfold fNe
  rw [eqv_int]
  simp [PyData.canLay0, PyData.depth]
theorem any_eqv {x : Int} : ∀ ns : List Int, ((ns.map PyData.int).any fun z => PyData.eqv z (.int x)) = decide (x ∈ ns)
  | [] => by simp
  | n :: ns => by
    rw [List.map_cons, List.any_cons, any_eqv ns, eqv_int]
    by_cases h : n = x
    · simp [h]
    · simp [h, Ne.symm h]
theorem shaped_ints (ns : List Int) : SeqAt.shaped (.list (ns.map PyData.int)) = true := by
  unfold SeqAt.shaped
  rw [Bool.and_eq_true]
  refine ⟨by simp only [PyData.canLay0]; exact can_ints ns, decide_eq_true ?_⟩
  have := dep_ints ns
  simp only [PyData.depth]
  omega
theorem in_ints {x : Int} {ns : List Int} : fIn false (.int x) (.list (ns.map PyData.int)) = some (.bool (decide (x ∈ ns))) := by
  unfold fIn
  dsimp only
  have e : SeqAt.shaped (.int x) = true := by simp [SeqAt.shaped, PyData.canLay0, PyData.depth]
  rw [shaped_ints, e, any_eqv]
  simp
theorem two_set {g : Gm} {i j : Nat} {mu : Mu} {a b : D} {s t : Sl} (h1 : g[i]? = some s) (hs : s ≠ .mug) (h2 : g[j]? = some t) (ht : t ≠ .mug) (hij : i ≠ j) :
    mTup 2 (mCons (mName i) (mCons (mName j) mNil)) (.tuple [a, b]) g mu = some ((g.set i (.val a)).set j (.val b), mu) := by
  have e1 := setSl_at (s := .val a) h1 hs
  have e2 : setSl (g.set i (.val a)) j (.val b) = some ((g.set i (.val a)).set j (.val b)) := setSl_at (by rw [List.getElem?_set_ne hij]; exact h2) ht
  rw [q_ttup, if_pos (show [a, b].length = 2 from rfl), q_tcons, q_tname, e1]
  show (match mName j b (g.set i (.val a)) mu with | some (g1, mu1) => mNil [] g1 mu1 | none => none) = _
  rw [q_tname, e2]
  rfl
theorem row_len {r : List (Int × Int)} : fLen [rowD r] = some (.int r.length) := by
  unfold rowD
  rw [f_lenT, List.length_map]
theorem row_tu {r : List (Int × Int)} : isTu (rowD r) = true := rfl
theorem cut_take {ds : List D} {j : Nat} : cutD ds none (some (j : Int)) = ds.take j := by
  unfold cutD
  have e1 : HT.sIx ds.length 0 none = 0 := rfl
  have e2 : HT.sIx ds.length ds.length (some (j : Int)) = min j ds.length := HT.sIx_nat _ _ _
  rw [e1, e2, List.drop_zero, Nat.sub_zero, List.take_eq_take_iff]
  omega
theorem cut_drop {ds : List D} {j : Nat} : cutD ds (some (j : Int)) none = ds.drop j := by
  unfold cutD
  have e1 : HT.sIx ds.length ds.length none = ds.length := rfl
  have e2 : HT.sIx ds.length 0 (some (j : Int)) = min j ds.length := HT.sIx_nat _ _ _
  rw [e1, e2, List.take_of_length_le (by rw [List.length_drop]; omega)]
  by_cases h : j ≤ ds.length
  · rw [Nat.min_eq_left h]
  · rw [Nat.min_eq_right (by omega), List.drop_length, List.drop_eq_nil_of_le (by omega)]
theorem state_ok {m : Nat} {r : List (Int × Int)} {mu : Mu} (h : RowOk m r) : fm_is_state [.val (rowD r), .val (.int (m : Int))] mu = .ok (.bool true) mu := by
  have hlen : (r.map duoD).length = r.length := List.length_map ..
  have hp := h.pos
  have hf := h.few
  have en : enumD (r.map duoD) = r.zipIdx.map fun p => PyData.tuple [.int (p.2 : Nat), duoD p.1] := by
    unfold enumD
    rw [List.zipIdx_map, List.map_map]
    rfl
  refine body_rt ?_
  have hA : sIf (mOr (mNot (mTru (eIsi "tuple" (eVar 0)))) (mNot (mT (eChain fLe fLe (eC (.int 1)) (eCall fLen (aCons (eVar 0) aNil)) (eC (.int 4)))))) (sRet (eC (.bool false))) sPass [.val (rowD r), .val (.int (m : Int)), .no, .no, .no] mu = .nx [.val (rowD r), .val (.int (m : Int)), .no, .no, .no] mu := by
    have h1 := e_tuple (m := eVar 0) (g := [.val (rowD r), .val (.int (m : Int)), .no, .no, .no]) (mu := mu) (d := rowD r) rfl rfl
    have e1 : (1 : Int) ≤ (r.length : Int) := by omega
    have e2 : (r.length : Int) ≤ 4 := by omega
    simp [h1, row_tu, row_len, eVar, e1, e2]
  have hB := forS_inv (gm := mTup 2 (mCons (mName 2) (mCons (mName 3) mNil))) (enc := fun (p : (Int × Int) × Nat) => PyData.tuple [.int (p.2 : Nat), duoD p.1]) (body := sSeq (sIf (mOr (mNot (mTru (eIsi "tuple" (eVar 3)))) (mOr (mT (eOp2 fNe (eCall fLen (aCons (eVar 3) aNil)) (eC (.int 2)))) (mNot (mTru (eFn fm_is_between (bCons (eOp2 fIx (eVar 3) (eC (.int 0))) (bCons (eC (.int 0)) (bCons (eOp2 fSub (eC (.int 4)) (eC (.int 1))) bNil)))))))) (sRet (eC (.bool false))) sPass) (sIf (mOr (mNot (mTru (eFn fm_is_between (bCons (eOp2 fIx (eVar 3) (eC (.int 1))) (bCons (eC (.int 0)) (bCons (eOp2 fSub (eVar 1) (eC (.int 1))) bNil)))))) (mT (eOp2 (fIn false) (eOp2 fIx (eVar 3) (eC (.int 0))) (eComp [4] (iSeq (eCut (eVar 0) oNo (oSo (eVar 2)))) (mName 4) mYes (eOp2 fIx (eVar 4) (eC (.int 0))))))) (sRet (eC (.bool false))) sPass))
    (fun _ g mu' => mu' = mu ∧ ∃ t2 t3 : Sl, g = [.val (rowD r), .val (.int (m : Int)), t2, t3, .no] ∧ t2 ≠ .mug ∧ t3 ≠ .mug) r.zipIdx 0 [.val (rowD r), .val (.int (m : Int)), .no, .no, .no] mu ⟨rfl, .no, .no, rfl, by simp, by simp⟩ ?_
  · obtain ⟨g', mu', e, rfl, t2, t3, rfl, _, _⟩ := hB
    rw [← en] at e
    have hI : iEnum (aCons (eVar 0) aNil) [.val (rowD r), .val (.int (m : Int)), .no, .no, .no] mu' = .ok (enumD (r.map duoD)) mu' := rfl
    show sSeq _ (sSeq _ _) [.val (rowD r), .val (.int (m : Int)), .no, .no, .no] mu' = _
    rw [q_seq, hA, seq_nx, q_seq, q_for, hI, toS_ok, e]
    rfl
  · rintro i ⟨p, j⟩ g mu' hx ⟨rfl, t2, t3, rfl, n2, n3⟩
    rw [List.getElem?_zipIdx] at hx
    have hpi : r[i]? = some p ∧ j = i := by
      cases q : r[i]? with
      | none => rw [q] at hx; cases hx
      | some z =>
        rw [q] at hx
        injection hx with hx
        injection hx with h1 h2
        exact ⟨by rw [h1], by omega⟩
    obtain ⟨hpi, rfl⟩ := hpi
    have hpm : p ∈ r := List.mem_of_getElem? hpi
    refine ⟨_, mu', [.val (rowD r), .val (.int (m : Int)), .val (.int (j : Int)), .val (duoD p), .no], mu', two_set (s := t2) (t := t3) rfl n2 rfl n3 (by decide), ?_, rfl, _, _, rfl, by simp, by simp⟩
    have hj : j < r.length := (List.getElem?_eq_some_iff.mp hpi).1
    have h3 : eIsi "tuple" (eVar 3) [.val (rowD r), .val (.int (m : Int)), .val (.int (j : Int)), .val (duoD p), .no] mu' = .ok (.bool true) mu' := e_tuple (d := duoD p) rfl rfl
    have l2 : fLen [duoD p] = some (.int 2) := rfl
    have n2 : fNe (.int 2) (.int 2) = some (.bool false) := ne_int 2 2
    have i0 : fIx (duoD p) (.int 0) = some (.int p.1) := rfl
    have i1 : fIx (duoD p) (.int 1) = some (.int p.2) := rfl
    have w := h.winds p hpm
    have gl := h.goals p hpm
    have b1 := between_ok (d := .int p.1) (lo := 0) (hi := 3) (mu := []) rfl
    have b2 := between_ok (d := .int p.2) (lo := 0) (hi := (m : Int) - 1) (mu := []) rfl
    have w1 : p.1 ≤ 3 := by omega
    have g1 : p.2 ≤ (m : Int) - 1 := by omega
    have hc : eComp [4] (iSeq (eCut (eVar 0) oNo (oSo (eVar 2)))) (mName 4) mYes (eOp2 fIx (eVar 4) (eC (.int 0))) [.val (rowD r), .val (.int (m : Int)), .val (.int (j : Int)), .val (duoD p), .no] mu' = .ok (.list (((r.take j).map (·.1)).map PyData.int)) mu' := by
      have hcut : iSeq (eCut (eVar 0) oNo (oSo (eVar 2))) [.val (rowD r), .val (.int (m : Int)), .val (.int (j : Int)), .val (duoD p), .no] mu' = .ok ((r.take j).map duoD) mu' := by
        show R.ok (cutD (r.map duoD) none (some (j : Int))) mu' = _
        rw [cut_take, List.map_take]
      have hm := compS_map (gm := mName 4) (mt := mYes) (me := eOp2 fIx (eVar 4) (eC (.int 0))) (enc := duoD) (f := fun q : Int × Int => PyData.int q.1) (g := wipeG [.val (rowD r), .val (.int (m : Int)), .val (.int (j : Int)), .val (duoD p), .no] [4]) (mu := mu') (xs := r.take j) fun q _ => ⟨_, rfl, rfl, rfl⟩
      have hl : (r.take j).length ≤ lineN := le_line (by rw [List.length_take]; omega)
      rw [q_comp, hcut, bind_ok, hm]
      show (if ((r.take j).map fun q : Int × Int => PyData.int q.1).length ≤ lineN then R.ok (PyData.list ((r.take j).map fun q : Int × Int => PyData.int q.1)) mu' else .bad) = _
      rw [if_pos (by rw [List.length_map]; exact hl), List.map_map]
      rfl
    have nin : decide (p.1 ∈ (r.take j).map (·.1)) = false := by
      refine decide_eq_false fun hmem => ?_
      have nd := h.nd
      have e : r.map (·.1) = (r.take j).map (·.1) ++ (r.drop j).map (·.1) := by rw [← List.map_append, List.take_append_drop]
      rw [e] at nd
      refine (List.nodup_append.mp nd).2.2 p.1 hmem p.1 ?_ rfl
      refine List.mem_map.mpr ⟨p, ?_, rfl⟩
      rw [List.drop_eq_getElem_cons hj, (List.getElem?_eq_some_iff.mp hpi).2]
      exact List.mem_cons_self
    have hin := in_ints (x := p.1) (ns := (r.take j).map (·.1))
    rw [nin] at hin
    show sSeq _ _ [.val (rowD r), .val (.int (m : Int)), .val (.int (j : Int)), .val (duoD p), .no] mu' = _
    simp only [q_seq, q_sif, q_mOr, q_mNot, q_mTru, q_mT, q_op2, h3]
    generalize ((r.take j).map (·.1)).map PyData.int = L at hc hin
    simp [hc, hin, eVar, l2, n2, i0, i1, b1, b2, betw, w.1, w1, gl.1, g1]
theorem bols_true : ∀ n : Nat, bolsOf (List.replicate n (PyData.bool true)) = some (List.replicate n true)
  | 0 => rfl
  | n + 1 => by
    rw [List.replicate_succ, List.replicate_succ]
    show (bolsOf (List.replicate n (PyData.bool true))).map (true :: ·) = _
    rw [bols_true n]
    rfl
theorem all_true (n : Nat) : fAll [.list (List.replicate n (PyData.bool true))] = some (.bool true) := by
  show (bolsOf (List.replicate n (PyData.bool true))).map (fun bs => PyData.bool (bs.all id)) = _
  rw [bols_true n]
  simp
theorem sky_len {s : Sky} : fLen [skyD s] = some (.int s.length) := by
  unfold skyD
  rw [f_lenT, List.length_map]
theorem sky_tu {s : Sky} : isTu (skyD s) = true := rfl
theorem weather_ok {s : Sky} {mu : Mu} (h : SkyOk s) : fm_is_weather [.val (skyD s)] mu = .ok (.bool true) mu := by
  have hp := h.pos
  have hf := h.few
  refine body_rt ?_
  have hA : sIf (mOr (mNot (mTru (eIsi "tuple" (eVar 0)))) (mNot (mT (eChain fLe fLe (eC (.int 1)) (eCall fLen (aCons (eVar 0) aNil)) (eC (.int 3)))))) (sRet (eC (.bool false))) sPass [.val (skyD s), .no] mu = .nx [.val (skyD s), .no] mu := by
    have h1 := e_tuple (m := eVar 0) (g := [.val (skyD s), .no]) (mu := mu) (d := skyD s) rfl rfl
    have e1 : (1 : Int) ≤ (s.length : Int) := by omega
    have e2 : (s.length : Int) ≤ 3 := by omega
    simp [h1, sky_tu, sky_len, eVar, e1, e2]
  have hB : eComp [1] (iSeq (eVar 0)) (mName 1) mYes (eFn fm_is_state (bCons (eVar 1) (bCons (eCall fLen (aCons (eVar 0) aNil)) bNil))) [.val (skyD s), .no] mu = .ok (.list (List.replicate s.length (PyData.bool true))) mu := by
    have hi : iSeq (eVar 0) [.val (skyD s), .no] mu = .ok (s.map rowD) mu := rfl
    have hm := compS_map (gm := mName 1) (mt := mYes) (me := eFn fm_is_state (bCons (eVar 1) (bCons (eCall fLen (aCons (eVar 0) aNil)) bNil))) (enc := rowD) (f := fun _ => PyData.bool true) (g := wipeG [.val (skyD s), .no] [1]) (mu := mu) (xs := s) fun r hr => ⟨_, rfl, rfl, by
      have z := state_ok (mu := []) (h.rows r hr)
      show eFn fm_is_state (bCons (eVar 1) (bCons (eCall fLen (aCons (eVar 0) aNil)) bNil)) [.val (skyD s), .val (rowD r)] mu = _
      simp [eVar, sky_len, z]⟩
    rw [q_comp, hi, bind_ok, hm]
    show (if (s.map fun _ => PyData.bool true).length ≤ lineN then R.ok (PyData.list (s.map fun _ => PyData.bool true)) mu else .bad) = _
    rw [if_pos (by rw [List.length_map]; exact le_line (by omega)), List.map_const']
  show sSeq _ _ [.val (skyD s), .no] mu = _
  rw [q_seq, hA, seq_nx, q_ret, q_call, q_acons, hB, bind_ok, q_anil, bind_ok, bind_ok, all_true]
  rfl
theorem checkw_ok {s : Sky} {mu : Mu} (h : SkyOk s) : fm_check_weather [.val (skyD s)] mu = .ok .none mu := by
  have z := weather_ok (mu := []) h
  refine body_nx (g := [.val (skyD s)]) ?_
  simp [eVar, z]

/-! ### counts -/
/-- one hour more -/
def step1 (s : Sky) (rs : List Int) : List Int := s.map fun r => (r.map fun p => (rs[p.2.toNat]?).getD 0).sum
def rates (s : Sky) : Nat → List Int
  | 0 => List.replicate s.length 1
  | n + 1 => step1 s (rates s n)
theorem rates_len (s : Sky) : ∀ n, (rates s n).length = s.length
  | 0 => by simp [rates]
  | n + 1 => by simp [rates, step1]
theorem rates_get {s : Sky} (h : SkyOk s) {n : Nat} {r : List (Int × Int)} {p : Int × Int} (hr : r ∈ s) (hp : p ∈ r) : ∃ v, (rates s n)[p.2.toNat]? = some v ∧ atI ((rates s n).map PyData.int) p.2 = some (.int v) := by
  have g := (h.rows r hr).goals p hp
  have hl : p.2.toNat < (rates s n).length := by rw [rates_len]; omega
  refine ⟨_, List.getElem?_eq_getElem hl, atI_of g.1 ?_⟩
  rw [List.getElem?_map, List.getElem?_eq_getElem hl]
  rfl
theorem ints_of : ∀ ns : List Int, intsOf (ns.map PyData.int) = some ns
  | [] => rfl
  | n :: ns => by
    rw [List.map_cons]
    show (intsOf (ns.map PyData.int)).map (n :: ·) = _
    rw [ints_of ns]
    rfl
theorem sum_ints (ns : List Int) : fSum [.list (ns.map PyData.int)] = some (.int ns.sum) := by
  show (intsOf (ns.map PyData.int)).map (fun ns => PyData.int ns.sum) = _
  rw [ints_of]
  rfl
end Wf.Law
/-! k73: counts and words. -/
namespace Wf.Law
open PySem L2 Wf

theorem sum_row {s : Sky} (h : SkyOk s) {k : Nat} {r : List (Int × Int)} (hr : r ∈ s) {m : Int} {t3 : Sl} {mu : Mu} :
    eComp [5, 6] (iSeq (eVar 4)) (mTup 2 (mCons (mName 5) (mCons (mName 6) mNil))) mYes (eOp2 fIx (eVar 2) (eVar 6)) [.val (skyD s), .val (.int m), .val (.list ((rates s k).map PyData.int)), t3, .val (rowD r), .no, .no] mu
      = .ok (.list ((r.map fun p => ((rates s k)[p.2.toNat]?).getD 0).map PyData.int)) mu := by
  have hi : iSeq (eVar 4) [.val (skyD s), .val (.int m), .val (.list ((rates s k).map PyData.int)), t3, .val (rowD r), .no, .no] mu = .ok (r.map duoD) mu := rfl
  have hm := compS_map (gm := mTup 2 (mCons (mName 5) (mCons (mName 6) mNil))) (mt := mYes) (me := eOp2 fIx (eVar 2) (eVar 6)) (enc := duoD) (f := fun p : Int × Int => PyData.int (((rates s k)[p.2.toNat]?).getD 0))
    (g := wipeG [.val (skyD s), .val (.int m), .val (.list ((rates s k).map PyData.int)), t3, .val (rowD r), .no, .no] [5, 6]) (mu := mu) (xs := r) fun p hp => ⟨_, two_set (s := .no) (t := .no) rfl (by simp) rfl (by simp) (by decide), rfl, by
      obtain ⟨v, e1, e2⟩ := rates_get h (n := k) hr hp
      show eOp2 fIx (eVar 2) (eVar 6) [.val (skyD s), .val (.int m), .val (.list ((rates s k).map PyData.int)), t3, .val (rowD r), .val (.int p.1), .val (.int p.2)] mu = _
      generalize (rates s k).map PyData.int = L at e2
      simp [eVar, e2, e1]⟩
  have hl := (h.rows r hr).few
  rw [q_comp, hi, bind_ok, hm]
  show (if (r.map fun p : Int × Int => PyData.int (((rates s k)[p.2.toNat]?).getD 0)).length ≤ lineN then R.ok (PyData.list (r.map fun p : Int × Int => PyData.int (((rates s k)[p.2.toNat]?).getD 0))) mu else .bad) = _
  rw [if_pos (by rw [List.length_map]; exact le_line (by omega)), List.map_map]
  rfl
theorem f_mulL {a : List D} {k : Nat} (h2 : k < 1000000) (h : a.length * k ≤ lineN) : fMul (.list a) (.int (k : Int)) = some (.list (List.replicate k a).flatten) := by
  unfold fMul
  dsimp only
  rw [Int.toNat_natCast, if_pos ⟨by omega, by omega, h⟩]
abbrev cBody : SM := sSet 2 (eComp [4] (iSeq (eVar 0)) (mName 4) mYes (eCall fSum (aCons (eComp [5, 6] (iSeq (eVar 4)) (mTup 2 (mCons (mName 5) (mCons (mName 6) mNil))) mYes (eOp2 fIx (eVar 2) (eVar 6))) aNil)))
theorem count_loop {s : Sky} (h : SkyOk s) {n : Nat} {mu : Mu} (t3 : Sl) (h3 : t3 ≠ .mug) (hn : n < 1000) :
    sSeq (sFor (iRange1 (aCons (eVar 1) aNil)) (mName 3) cBody) (sRet (eOp2 fIx (eVar 2) (eC (.int 0)))) [.val (skyD s), .val (.int (n : Int)), .val (.list ((rates s 0).map PyData.int)), t3, .no, .no, .no] mu
      = .rt (.int ((rates s n)[0]?.getD 0)) mu := by
  have hB := forS_inv (gm := mName 3) (enc := fun (i : Nat) => PyData.int (i : Int)) (body := cBody)
    (fun i g mu' => mu' = mu ∧ ∃ t3 : Sl, g = [.val (skyD s), .val (.int (n : Int)), .val (.list ((rates s i).map PyData.int)), t3, .no, .no, .no] ∧ t3 ≠ .mug) (List.range n) 0 _ mu ⟨rfl, t3, rfl, h3⟩ ?_
  · obtain ⟨g', mu', e, rfl, t3', rfl, _⟩ := hB
    rw [List.length_range, Nat.zero_add] at e
    have hr := iRange1_ok (am := aCons (eVar 1) aNil) (g := [.val (skyD s), .val (.int (n : Int)), .val (.list ((rates s 0).map PyData.int)), t3, .no, .no, .no]) (mu := mu') (mu1 := mu') (n := n) rfl (by omega)
    have hl : 0 < (rates s n).length := by rw [rates_len]; exact h.pos
    have ha : atI ((rates s n).map PyData.int) 0 = some (.int ((rates s n)[0]?.getD 0)) := by
      refine atI_of (by decide) ?_
      rw [List.getElem?_map]
      show Option.map PyData.int (rates s n)[0]? = _
      rw [List.getElem?_eq_getElem hl]
      rfl
    rw [q_seq, q_for, hr, toS_ok, e, seq_nx]
    generalize (rates s n).map PyData.int = L at ha
    simp [eVar, ha]
  · rintro i x g mu' hx ⟨rfl, t3, rfl, n3⟩
    rw [Nat.zero_add]
    refine ⟨_, mu', [.val (skyD s), .val (.int (n : Int)), .val (.list ((rates s (i + 1)).map PyData.int)), .val (.int (x : Int)), .no, .no, .no], mu', by rw [q_tname, setSl_at (t := t3) rfl n3]; rfl, ?_, rfl, _, rfl, by simp⟩
    have hi : iSeq (eVar 0) [.val (skyD s), .val (.int (n : Int)), .val (.list ((rates s i).map PyData.int)), .val (.int (x : Int)), .no, .no, .no] mu' = .ok (s.map rowD) mu' := rfl
    have hm := compS_map (gm := mName 4) (mt := mYes) (me := eCall fSum (aCons (eComp [5, 6] (iSeq (eVar 4)) (mTup 2 (mCons (mName 5) (mCons (mName 6) mNil))) mYes (eOp2 fIx (eVar 2) (eVar 6))) aNil)) (enc := rowD)
      (f := fun r => PyData.int (r.map fun p => ((rates s i)[p.2.toNat]?).getD 0).sum) (g := wipeG [.val (skyD s), .val (.int (n : Int)), .val (.list ((rates s i).map PyData.int)), .val (.int (x : Int)), .no, .no, .no] [4]) (mu := mu') (xs := s) fun r hr => ⟨_, rfl, rfl, by
        have z := sum_row h (k := i) hr (m := (n : Int)) (t3 := .val (.int (x : Int))) (mu := mu')
        show eCall fSum (aCons (eComp [5, 6] (iSeq (eVar 4)) (mTup 2 (mCons (mName 5) (mCons (mName 6) mNil))) mYes (eOp2 fIx (eVar 2) (eVar 6))) aNil) [.val (skyD s), .val (.int (n : Int)), .val (.list ((rates s i).map PyData.int)), .val (.int (x : Int)), .val (rowD r), .no, .no] mu' = _
        rw [q_call, q_acons, z, bind_ok, q_anil, bind_ok, bind_ok, sum_ints]⟩
    have hc : eComp [4] (iSeq (eVar 0)) (mName 4) mYes (eCall fSum (aCons (eComp [5, 6] (iSeq (eVar 4)) (mTup 2 (mCons (mName 5) (mCons (mName 6) mNil))) mYes (eOp2 fIx (eVar 2) (eVar 6))) aNil)) [.val (skyD s), .val (.int (n : Int)), .val (.list ((rates s i).map PyData.int)), .val (.int (x : Int)), .no, .no, .no] mu' = .ok (.list ((rates s (i + 1)).map PyData.int)) mu' := by
      rw [q_comp, hi, bind_ok, hm]
      show (if (s.map fun r => PyData.int (r.map fun p => ((rates s i)[p.2.toNat]?).getD 0).sum).length ≤ lineN then R.ok (PyData.list (s.map fun r => PyData.int (r.map fun p => ((rates s i)[p.2.toNat]?).getD 0).sum)) mu' else .bad) = _
      have hf := h.few
      rw [if_pos (by rw [List.length_map]; exact le_line (by omega))]
      show _ = R.ok (PyData.list ((step1 s (rates s i)).map PyData.int)) mu'
      unfold step1
      rw [List.map_map]
      rfl
    show sSet 2 _ [.val (skyD s), .val (.int (n : Int)), .val (.list ((rates s i).map PyData.int)), .val (.int (x : Int)), .no, .no, .no] mu' = _
    rw [q_set, hc]
    rfl
theorem countw_ok {s : Sky} (h : SkyOk s) {n : Nat} {mu : Mu} (hn : n < 1000) : fm_count_words [.val (skyD s), .val (.int (n : Int))] mu = .ok (.int ((rates s n)[0]?.getD 0)) mu := by
  refine body_rt ?_
  have hA : sSet 2 (eOp2 fMul (eLst (aCons (eC (.int 1)) aNil)) (eCall fLen (aCons (eVar 0) aNil))) [.val (skyD s), .val (.int (n : Int)), .no, .no, .no, .no, .no] mu = .nx [.val (skyD s), .val (.int (n : Int)), .val (.list ((rates s 0).map PyData.int)), .no, .no, .no, .no] mu := by
    have hf := h.few
    have e : fMul (.list [.int 1]) (.int (s.length : Int)) = some (.list ((rates s 0).map PyData.int)) := by
      rw [f_mulL (by omega) (le_line (by simp; omega))]
      simp [rates, List.flatten_replicate_singleton]
    have h1 : eLst (aCons (eC (.int 1)) aNil) [.val (skyD s), .val (.int (n : Int)), .no, .no, .no, .no, .no] mu = .ok (.list [.int 1]) mu := by simp [le_line]
    rw [q_set, q_op2, h1]
    simp [eVar, sky_len, e, setSl]
  show sSeq _ _ [.val (skyD s), .val (.int (n : Int)), .no, .no, .no, .no, .no] mu = _
  rw [q_seq, hA, seq_nx]
  exact count_loop h .no (by simp) hn
theorem lcount_ok {s : Sky} (h : SkyOk s) {n : Nat} {mu : Mu} (hn : n < 1000) : fm__law_count [.val (skyD s), .val (.int (n : Int))] mu = .ok (.int ((rates s n)[0]?.getD 0)) mu := by
  refine body_rt ?_
  have hA : sSet 2 (eComp [4] (iSeq (eVar 0)) (mName 4) mYes (eC (.int 1))) [.val (skyD s), .val (.int (n : Int)), .no, .no, .no, .no, .no] mu = .nx [.val (skyD s), .val (.int (n : Int)), .val (.list ((rates s 0).map PyData.int)), .no, .no, .no, .no] mu := by
    have hf := h.few
    have hi : iSeq (eVar 0) [.val (skyD s), .val (.int (n : Int)), .no, .no, .no, .no, .no] mu = .ok (s.map rowD) mu := rfl
    have hm := compS_map (gm := mName 4) (mt := mYes) (me := eC (.int 1)) (enc := rowD) (f := fun _ => PyData.int 1) (g := wipeG [.val (skyD s), .val (.int (n : Int)), .no, .no, .no, .no, .no] [4]) (mu := mu) (xs := s) fun r hr => ⟨_, rfl, rfl, rfl⟩
    rw [q_set, q_comp, hi, bind_ok, hm]
    show (if (s.map fun _ => PyData.int 1).length ≤ lineN then R.ok (PyData.list (s.map fun _ => PyData.int 1)) mu else .bad).toS _ _ = _
    rw [if_pos (by rw [List.length_map]; exact le_line (by omega)), List.map_const']
    show _ = RS.nx [.val (skyD s), .val (.int (n : Int)), .val (.list ((List.replicate s.length (1 : Int)).map PyData.int)), .no, .no, .no, .no] mu
    rw [List.map_replicate]
    rfl
  show sSeq _ _ [.val (skyD s), .val (.int (n : Int)), .no, .no, .no, .no, .no] mu = _
  rw [q_seq, hA, seq_nx]
  exact count_loop h .no (by simp) hn
end Wf.Law
/-! k73: the words. -/
namespace Wf.Law
open PySem L2 Wf

theorem compS2_map {α : Type} {gm gm1 : GM} {mt mt1 : TM} {im1 : IM} {vs1 : List Nat} {me : EM} {enc : α → D} {f : α → List D} {g : Gm} {mu : Mu} : ∀ {xs : List α},
    (∀ x ∈ xs, ∃ g1 ds1, gm (enc x) g mu = some (g1, mu) ∧ mt g1 mu = .ok true mu ∧ im1 g1 mu = .ok ds1 mu ∧ compS gm1 mt1 me ds1 (wipeG g1 vs1) mu = .ok (f x) mu) →
    compS2 gm mt im1 vs1 gm1 mt1 me (xs.map enc) g mu = .ok (xs.flatMap f) mu
  | [], _ => rfl
  | x :: xs, h => by
    obtain ⟨g1, ds1, e1, e2, e3, e4⟩ := h x List.mem_cons_self
    have ih := compS2_map (gm := gm) (gm1 := gm1) (mt := mt) (mt1 := mt1) (im1 := im1) (vs1 := vs1) (me := me) (enc := enc) (f := f) (g := g) (mu := mu) (xs := xs) fun y hy => h y (List.mem_cons_of_mem _ hy)
    rw [List.map_cons]
    unfold compS2
    rw [e1]
    dsimp only
    rw [e2, bind_ok, if_pos rfl, e3, bind_ok, e4, bind_ok, ih, bind_ok, List.flatMap_cons]
def rowAt (s : Sky) (st : Int) : List (Int × Int) := (s[st.toNat]?).getD []
def wrows (s : Sky) : Nat → List (List Int × Int)
  | 0 => [([], 0)]
  | k + 1 => (wrows s k).flatMap fun x => (rowAt s x.2).map fun p => (x.1 ++ [p.1], p.2)
def wD (x : List Int × Int) : D := .tuple [tupD x.1, .int x.2]
theorem rowAt_ok {s : Sky} {st : Int} (h : 0 ≤ st ∧ st < s.length) : rowAt s st ∈ s ∧ atI (s.map rowD) st = some (rowD (rowAt s st)) := by
  have hl : st.toNat < s.length := by omega
  have e : rowAt s st = s[st.toNat] := by
    unfold rowAt
    rw [List.getElem?_eq_getElem hl]
    rfl
  refine ⟨by rw [e]; exact List.getElem_mem hl, atI_of h.1 ?_⟩
  rw [List.getElem?_map, List.getElem?_eq_getElem hl, e]
  rfl
structure WOk (s : Sky) (k : Nat) (x : List Int × Int) : Prop where
  len : x.1.length = k
  st : 0 ≤ x.2 ∧ x.2 < s.length
  winds : ∀ i ∈ x.1, 0 ≤ i ∧ i < 4
theorem wrows_ok {s : Sky} (h : SkyOk s) : ∀ (k : Nat), ∀ x ∈ wrows s k, WOk s k x
  | 0, x, hx => by
    have e : x = ([], 0) := by simpa [wrows] using hx
    subst e
    have hp := h.pos
    exact ⟨rfl, ⟨by simp, by simp; omega⟩, fun i hi => absurd hi List.not_mem_nil⟩
  | k + 1, x, hx => by
    unfold wrows at hx
    obtain ⟨y, hy, hx⟩ := List.mem_flatMap.mp hx
    obtain ⟨p, hp, rfl⟩ := List.mem_map.mp hx
    have ih := wrows_ok h k y hy
    have hr := (rowAt_ok ih.st).1
    have w := (h.rows _ hr).winds p hp
    refine ⟨by rw [List.length_append, ih.len]; rfl, (h.rows _ hr).goals p hp, fun i hi => ?_⟩
    rcases List.mem_append.mp hi with hi | hi
    · exact ih.winds i hi
    · rw [List.mem_singleton.mp hi]; exact w
theorem flat_len {α β : Type} {f : α → List β} {c : Nat} : ∀ {xs : List α}, (∀ x ∈ xs, (f x).length ≤ c) → (xs.flatMap f).length ≤ xs.length * c
  | [], _ => by simp
  | x :: xs, h => by
    rw [List.flatMap_cons, List.length_append, List.length_cons, Nat.succ_mul]
    have h1 := h x List.mem_cons_self
    have h2 := flat_len fun y hy => h y (List.mem_cons_of_mem x hy)
    omega
theorem wrows_len {s : Sky} (h : SkyOk s) : ∀ k, (wrows s k).length ≤ 4 ^ k
  | 0 => by simp [wrows]
  | k + 1 => by
    have ih := wrows_len h k
    unfold wrows
    have z := flat_len (f := fun x : List Int × Int => (rowAt s x.2).map fun p => (x.1 ++ [p.1], p.2)) (c := 4) (xs := wrows s k) fun x hx => by
      rw [List.length_map]
      exact (h.rows _ (rowAt_ok (wrows_ok h k x hx).st).1).few
    rw [Nat.pow_succ]
    omega
theorem wrows_ne {s : Sky} (h : SkyOk s) : ∀ k, wrows s k ≠ []
  | 0 => by simp [wrows]
  | k + 1 => by
    have ih := wrows_ne h k
    obtain ⟨x, hx⟩ := List.exists_mem_of_ne_nil _ ih
    have ok := wrows_ok h k x hx
    have hr := (h.rows _ (rowAt_ok ok.st).1).pos
    obtain ⟨p, hp⟩ := List.exists_mem_of_length_pos hr
    intro e
    have : (x.1 ++ [p.1], p.2) ∈ wrows s (k + 1) := by
      unfold wrows
      exact List.mem_flatMap.mpr ⟨x, hx, List.mem_map.mpr ⟨p, hp, rfl⟩⟩
    rw [e] at this
    exact absurd this List.not_mem_nil
theorem pow_le {k : Nat} (h : k ≤ 6) : 4 ^ k ≤ 4096 := Nat.pow_le_pow_right (n := 4) (by decide) h
/-- one word, one wind more -/
theorem word_add {w : List Int} {i : Int} (h : w.length ≤ 1000) : tupD (w ++ [i]) = .tuple (w.map PyData.int ++ [.int i]) := by
  unfold tupD
  rw [List.map_append]
  rfl
theorem wstep {s : Sky} (h : SkyOk s) {k : Nat} (hk : k < 6) {n : Int} {t3 : Sl} {mu : Mu} :
    eComp2 [4, 5, 6, 7] (iSeq (eVar 2)) (mTup 2 (mCons (mName 4) (mCons (mName 5) mNil))) mYes [6, 7] (iSeq (eOp2 fIx (eVar 0) (eVar 5))) (mTup 2 (mCons (mName 6) (mCons (mName 7) mNil))) mYes (eTup (aCons (eTup (aStar (eVar 4) (aCons (eVar 6) aNil))) (aCons (eVar 7) aNil)))
      [.val (skyD s), .val (.int n), .val (.list ((wrows s k).map wD)), t3, .no, .no, .no, .no] mu = .ok (.list ((wrows s (k + 1)).map wD)) mu := by
  have hi : iSeq (eVar 2) [.val (skyD s), .val (.int n), .val (.list ((wrows s k).map wD)), t3, .no, .no, .no, .no] mu = .ok ((wrows s k).map wD) mu := rfl
  have hm := compS2_map (gm := mTup 2 (mCons (mName 4) (mCons (mName 5) mNil))) (mt := mYes) (im1 := iSeq (eOp2 fIx (eVar 0) (eVar 5))) (vs1 := [6, 7]) (gm1 := mTup 2 (mCons (mName 6) (mCons (mName 7) mNil))) (mt1 := mYes) (me := eTup (aCons (eTup (aStar (eVar 4) (aCons (eVar 6) aNil))) (aCons (eVar 7) aNil)))
    (enc := wD) (f := fun x => (rowAt s x.2).map fun p => wD (x.1 ++ [p.1], p.2)) (g := wipeG [.val (skyD s), .val (.int n), .val (.list ((wrows s k).map wD)), t3, .no, .no, .no, .no] [4, 5, 6, 7]) (mu := mu) (xs := wrows s k) fun x hx => by
      have ok := wrows_ok h k x hx
      obtain ⟨hr, ha⟩ := rowAt_ok ok.st
      refine ⟨_, (rowAt s x.2).map duoD, two_set (s := .no) (t := .no) rfl (by simp) rfl (by simp) (by decide), rfl, ?_, ?_⟩
      · show iSeq (eOp2 fIx (eVar 0) (eVar 5)) [.val (skyD s), .val (.int n), .val (.list ((wrows s k).map wD)), t3, .val (tupD x.1), .val (.int x.2), .no, .no] mu = _
        have hx0 : fIx (skyD s) (.int x.2) = some (rowD (rowAt s x.2)) := ha
        have hx1 : iSeq (eC (rowD (rowAt s x.2))) [] mu = .ok ((rowAt s x.2).map duoD) mu := rfl
        simp [eVar, hx0, rowD]
      · have hl := ok.len
        exact compS_map (gm := mTup 2 (mCons (mName 6) (mCons (mName 7) mNil))) (mt := mYes) (enc := duoD) (f := fun p => wD (x.1 ++ [p.1], p.2)) (xs := rowAt s x.2) fun p hp => ⟨_, two_set (s := .no) (t := .no) rfl (by simp) rfl (by simp) (by decide), rfl, by
          show eTup (aCons (eTup (aStar (eVar 4) (aCons (eVar 6) aNil))) (aCons (eVar 7) aNil)) [.val (skyD s), .val (.int n), .val (.list ((wrows s k).map wD)), t3, .val (tupD x.1), .val (.int x.2), .val (.int p.1), .val (.int p.2)] mu = _
          have hs : aStar (eVar 4) (aCons (eVar 6) aNil) [.val (skyD s), .val (.int n), .val (.list ((wrows s k).map wD)), t3, .val (tupD x.1), .val (.int x.2), .val (.int p.1), .val (.int p.2)] mu = .ok (x.1.map PyData.int ++ [.int p.1]) mu := rfl
          have hl2 : (x.1.map PyData.int ++ [PyData.int p.1]).length ≤ lineN := le_line (by simp; omega)
          have hl3 : [PyData.tuple (x.1.map PyData.int ++ [PyData.int p.1]), .int p.2].length ≤ lineN := le_line (by simp)
          rw [q_tup, q_acons, q_tup, hs, bind_ok, if_pos hl2, bind_ok, q_acons]
          show (if [PyData.tuple (x.1.map PyData.int ++ [PyData.int p.1]), .int p.2].length ≤ lineN then R.ok (PyData.tuple [PyData.tuple (x.1.map PyData.int ++ [PyData.int p.1]), .int p.2]) mu else .bad) = _
          rw [if_pos hl3]
          unfold wD
          dsimp only
          rw [word_add (by omega)]⟩
  unfold eComp2
  rw [hi, bind_ok, hm]
  have e : ((wrows s k).flatMap fun x => (rowAt s x.2).map fun p => wD (x.1 ++ [p.1], p.2)) = (wrows s (k + 1)).map wD := by
    show _ = ((wrows s k).flatMap fun x => (rowAt s x.2).map fun p => (x.1 ++ [p.1], p.2)).map wD
    rw [List.map_flatMap]
    congr 1
    funext x
    rw [List.map_map]
    rfl
  rw [e]
  have hl := wrows_len h (k + 1)
  have hp := pow_le (k := k + 1) (by omega)
  show (if ((wrows s (k + 1)).map wD).length ≤ lineN then R.ok (PyData.list ((wrows s (k + 1)).map wD)) mu else .bad) = _
  rw [if_pos (le_line (by rw [List.length_map]; omega))]
end Wf.Law
/-! k73: words, walks. -/
namespace Wf.Law
open PySem L2 Wf

/-- all words of n hours, sorted -/
def wordsOf (s : Sky) (n : Nat) : List (List Int) := sortT ((wrows s n).map (·.1))
def wordsD (s : Sky) (n : Nat) : D := .tuple ((wordsOf s n).map tupD)
theorem tupsOf_map : ∀ W : List (List Int), (∀ w ∈ W, w ≠ []) → tupsOf (W.map tupD) = some W
  | [], _ => rfl
  | [] :: W, h => absurd rfl (h [] List.mem_cons_self)
  | (i :: w) :: W, h => by
    have ih := tupsOf_map W fun x hx => h x (List.mem_cons_of_mem _ hx)
    have e : intsOf ((i :: w).map PyData.int) = some (i :: w) := ints_of _
    rw [List.map_cons]
    unfold tupsOf tupD
    dsimp only
    rw [e]
    dsimp only
    show Option.map _ (tupsOf (W.map tupD)) = _
    rw [ih]
    rfl
theorem sort_words {W : List (List Int)} (hne : W ≠ []) (h : ∀ w ∈ W, w ≠ []) : fSort [.list (W.map tupD)] = some (.list ((sortT W).map tupD)) := by
  have e1 : intsOf (W.map tupD) = none := by
    cases W with
    | nil => exact absurd rfl hne
    | cons w W => rfl
  unfold fSort
  dsimp only
  rw [e1]
  dsimp only
  rw [tupsOf_map W h]
theorem sort_ok {s : Sky} (h : SkyOk s) {n : Nat} (hn : 0 < n) : fSort [.list ((wrows s n).map fun x => tupD x.1)] = some (.list ((wordsOf s n).map tupD)) := by
  have e : ((wrows s n).map fun x => tupD x.1) = ((wrows s n).map (·.1)).map tupD := by rw [List.map_map]; rfl
  rw [e]
  refine sort_words (fun z => wrows_ne h n (List.map_eq_nil_iff.mp z)) fun w hw => ?_
  obtain ⟨x, hx, rfl⟩ := List.mem_map.mp hw
  intro z
  have := (wrows_ok h n x hx).len
  rw [z] at this
  simp at this
  omega
theorem init_rows {g : Gm} {mu : Mu} : eLst (aCons (eTup (aCons (eTup aNil) (aCons (eC (.int 0)) aNil))) aNil) g mu = .ok (.list [wD ([], 0)]) mu := by
  simp [le_line, wD, tupD]
theorem words_loop {s : Sky} (h : SkyOk s) {n : Nat} (hn : 0 < n) (h6 : n ≤ 6) {mu : Mu} :
    sSeq (sSet 2 (eLst (aCons (eTup (aCons (eTup aNil) (aCons (eC (.int 0)) aNil))) aNil))) (sSeq (sFor (iRange1 (aCons (eVar 1) aNil)) (mName 3) (sSet 2 (eComp2 [4, 5, 6, 7] (iSeq (eVar 2)) (mTup 2 (mCons (mName 4) (mCons (mName 5) mNil))) mYes [6, 7] (iSeq (eOp2 fIx (eVar 0) (eVar 5))) (mTup 2 (mCons (mName 6) (mCons (mName 7) mNil))) mYes (eTup (aCons (eTup (aStar (eVar 4) (aCons (eVar 6) aNil))) (aCons (eVar 7) aNil)))))) (sRet (eCall fTuple (aCons (eCall fSort (aCons (eComp [4, 5] (iSeq (eVar 2)) (mTup 2 (mCons (mName 4) (mCons (mName 5) mNil))) mYes (eVar 4)) aNil)) aNil))))
      [.val (skyD s), .val (.int (n : Int)), .no, .no, .no, .no, .no, .no] mu = .rt (wordsD s n) mu := by
  have hB := forS_inv (gm := mName 3) (enc := fun (i : Nat) => PyData.int (i : Int)) (body := sSet 2 (eComp2 [4, 5, 6, 7] (iSeq (eVar 2)) (mTup 2 (mCons (mName 4) (mCons (mName 5) mNil))) mYes [6, 7] (iSeq (eOp2 fIx (eVar 0) (eVar 5))) (mTup 2 (mCons (mName 6) (mCons (mName 7) mNil))) mYes (eTup (aCons (eTup (aStar (eVar 4) (aCons (eVar 6) aNil))) (aCons (eVar 7) aNil)))))
    (fun i g mu' => mu' = mu ∧ ∃ t3 : Sl, g = [.val (skyD s), .val (.int (n : Int)), .val (.list ((wrows s i).map wD)), t3, .no, .no, .no, .no] ∧ t3 ≠ .mug) (List.range n) 0 _ mu ⟨rfl, .no, rfl, by simp⟩ ?_
  · obtain ⟨g', mu', e, rfl, t3', rfl, _⟩ := hB
    rw [List.length_range, Nat.zero_add] at e
    have hr := iRange1_ok (am := aCons (eVar 1) aNil) (g := [.val (skyD s), .val (.int (n : Int)), .val (.list ((wrows s 0).map wD)), .no, .no, .no, .no, .no]) (mu := mu') (mu1 := mu') (n := n) rfl (by omega)
    have hS : sSet 2 (eLst (aCons (eTup (aCons (eTup aNil) (aCons (eC (.int 0)) aNil))) aNil)) [.val (skyD s), .val (.int (n : Int)), .no, .no, .no, .no, .no, .no] mu' = .nx [.val (skyD s), .val (.int (n : Int)), .val (.list ((wrows s 0).map wD)), .no, .no, .no, .no, .no] mu' := by
      rw [q_set, init_rows]
      rfl
    have hi : iSeq (eVar 2) [.val (skyD s), .val (.int (n : Int)), .val (.list ((wrows s n).map wD)), t3', .no, .no, .no, .no] mu' = .ok ((wrows s n).map wD) mu' := rfl
    have hm := compS_map (gm := mTup 2 (mCons (mName 4) (mCons (mName 5) mNil))) (mt := mYes) (me := eVar 4) (enc := wD) (f := fun x => tupD x.1) (g := wipeG [.val (skyD s), .val (.int (n : Int)), .val (.list ((wrows s n).map wD)), t3', .no, .no, .no, .no] [4, 5]) (mu := mu') (xs := wrows s n)
      fun x hx => ⟨_, two_set (s := .no) (t := .no) rfl (by simp) rfl (by simp) (by decide), rfl, rfl⟩
    have hl := wrows_len h n
    have hp := pow_le h6
    have hc : eComp [4, 5] (iSeq (eVar 2)) (mTup 2 (mCons (mName 4) (mCons (mName 5) mNil))) mYes (eVar 4) [.val (skyD s), .val (.int (n : Int)), .val (.list ((wrows s n).map wD)), t3', .no, .no, .no, .no] mu' = .ok (.list ((wrows s n).map fun x => tupD x.1)) mu' := by
      rw [q_comp, hi, bind_ok, hm]
      show (if ((wrows s n).map fun x => tupD x.1).length ≤ lineN then R.ok (PyData.list ((wrows s n).map fun x => tupD x.1)) mu' else .bad) = _
      rw [if_pos (le_line (by rw [List.length_map]; omega))]
    rw [q_seq, hS, seq_nx, q_seq, q_for, hr, toS_ok, e, seq_nx, q_ret, q_call, q_acons, q_call, q_acons, hc, bind_ok, q_anil, bind_ok, bind_ok, sort_ok h hn]
    rfl
  · rintro i x g mu' hx ⟨rfl, t3, rfl, n3⟩
    have hi : i < n := by
      have := (List.getElem?_eq_some_iff.mp hx).1
      simpa using this
    rw [Nat.zero_add]
    refine ⟨_, mu', [.val (skyD s), .val (.int (n : Int)), .val (.list ((wrows s (i + 1)).map wD)), .val (.int (x : Int)), .no, .no, .no, .no], mu', by rw [q_tname, setSl_at (t := t3) rfl n3]; rfl, ?_, rfl, _, rfl, by simp⟩
    have hc := wstep h (k := i) (by omega) (n := (n : Int)) (t3 := .val (.int (x : Int))) (mu := mu')
    show sSet 2 _ [.val (skyD s), .val (.int (n : Int)), .val (.list ((wrows s i).map wD)), .val (.int (x : Int)), .no, .no, .no, .no] mu' = _
    rw [q_set, hc]
    rfl
def cnt (s : Sky) (n : Nat) : Int := ((rates s n)[0]?).getD 0
theorem words_ok {s : Sky} (h : SkyOk s) {n : Nat} (hn : 0 < n) (h6 : n ≤ 6) {mu : Mu} :
    fm_words [.val (skyD s), .val (.int (n : Int))] mu = if 300 < cnt s n then .exc "TooMany" (some ("given", .int (cnt s n))) mu else .ok (wordsD s n) mu := by
  have c1 := checkw_ok (mu := []) h
  have c2 := many_ok (mu := []) hn h6
  have c3 : fm_count_words [.val (skyD s), .val (.int (n : Int))] [] = .ok (.int (cnt s n)) [] := countw_ok (mu := []) h (n := n) (by omega)
  have d1 : sDrop (eFn fm_check_weather (bCons (eVar 0) bNil)) [.val (skyD s), .val (.int (n : Int)), .no, .no, .no, .no, .no, .no] mu = .nx [.val (skyD s), .val (.int (n : Int)), .no, .no, .no, .no, .no, .no] mu := by
    simp [eVar, c1]
  have d2 : sDrop (eFn fm_check_many (bCons (eVar 1) bNil)) [.val (skyD s), .val (.int (n : Int)), .no, .no, .no, .no, .no, .no] mu = .nx [.val (skyD s), .val (.int (n : Int)), .no, .no, .no, .no, .no, .no] mu := by
    simp [eVar, c2]
  by_cases hc : 300 < cnt s n
  · rw [if_pos hc]
    generalize cnt s n = c at hc c3 ⊢
    refine body_exc (g := [.val (skyD s), .val (.int (n : Int)), .no, .no, .no, .no, .no, .no]) ?_
    show sSeq _ (sSeq _ (sSeq _ _)) [.val (skyD s), .val (.int (n : Int)), .no, .no, .no, .no, .no, .no] mu = _
    rw [q_seq, d1, seq_nx, q_seq, d2, seq_nx, q_seq]
    simp [eVar, c3, hc]
  · rw [if_neg hc]
    generalize cnt s n = c at hc c3 ⊢
    refine body_rt ?_
    show sSeq _ (sSeq _ (sSeq _ _)) [.val (skyD s), .val (.int (n : Int)), .no, .no, .no, .no, .no, .no] mu = _
    have d3 : sIf (mT (eOp2 fGt (eFn fm_count_words (bCons (eVar 0) (bCons (eVar 1) bNil))) (eC (.int 300)))) (sRaise "TooMany" "given" (eFn fm_count_words (bCons (eVar 0) (bCons (eVar 1) bNil)))) sPass [.val (skyD s), .val (.int (n : Int)), .no, .no, .no, .no, .no, .no] mu = .nx [.val (skyD s), .val (.int (n : Int)), .no, .no, .no, .no, .no, .no] mu := by
      simp [eVar, c3, hc]
    rw [q_seq, d1, seq_nx, q_seq, d2, seq_nx, q_seq, d3, seq_nx]
    exact words_loop h hn h6

/-! ### the law's walks -/
abbrev wBody : SM := sSet 4 (eOp2 fAdd (eVar 4) (eComp [7] (iSeq (eOp2 fIx (eVar 0) (eVar 6))) (mName 7) mYes (eTup (aCons (eOp2 fAdd (eVar 5) (eTup (aCons (eOp2 fIx (eVar 7) (eC (.int 0))) aNil))) (aCons (eOp2 fIx (eVar 7) (eC (.int 1))) aNil)))))
abbrev wLap : SM := sSeq (sSet 4 (eLst aNil)) (sSeq (sFor (iSeq (eVar 2)) (mTup 2 (mCons (mName 5) (mCons (mName 6) mNil))) wBody) (sSet 2 (eVar 4)))
def wmore (s : Sky) (x : List Int × Int) : List (List Int × Int) := (rowAt s x.2).map fun p => (x.1 ++ [p.1], p.2)
theorem wpiece {s : Sky} (h : SkyOk s) {k : Nat} (hk : k < 6) {x : List Int × Int} (hx : x ∈ wrows s k) {d1 d2 d3 d4 : Sl} {mu : Mu} :
    eComp [7] (iSeq (eOp2 fIx (eVar 0) (eVar 6))) (mName 7) mYes (eTup (aCons (eOp2 fAdd (eVar 5) (eTup (aCons (eOp2 fIx (eVar 7) (eC (.int 0))) aNil))) (aCons (eOp2 fIx (eVar 7) (eC (.int 1))) aNil)))
      [.val (skyD s), d1, d2, d3, d4, .val (tupD x.1), .val (.int x.2), .no, .no] mu = .ok (.list ((wmore s x).map wD)) mu := by
  have ok := wrows_ok h k x hx
  obtain ⟨hr, ha⟩ := rowAt_ok ok.st
  have hi : iSeq (eOp2 fIx (eVar 0) (eVar 6)) [.val (skyD s), d1, d2, d3, d4, .val (tupD x.1), .val (.int x.2), .no, .no] mu = .ok ((rowAt s x.2).map duoD) mu := by
    have hx0 : fIx (skyD s) (.int x.2) = some (rowD (rowAt s x.2)) := ha
    simp [eVar, hx0, rowD]
  have hl := ok.len
  have hm := compS_map (gm := mName 7) (mt := mYes) (me := eTup (aCons (eOp2 fAdd (eVar 5) (eTup (aCons (eOp2 fIx (eVar 7) (eC (.int 0))) aNil))) (aCons (eOp2 fIx (eVar 7) (eC (.int 1))) aNil))) (enc := duoD) (f := fun p => wD (x.1 ++ [p.1], p.2))
    (g := wipeG [.val (skyD s), d1, d2, d3, d4, .val (tupD x.1), .val (.int x.2), .no, .no] [7]) (mu := mu) (xs := rowAt s x.2) fun p hp => ⟨_, rfl, rfl, by
      show eTup (aCons (eOp2 fAdd (eVar 5) (eTup (aCons (eOp2 fIx (eVar 7) (eC (.int 0))) aNil))) (aCons (eOp2 fIx (eVar 7) (eC (.int 1))) aNil)) [.val (skyD s), d1, d2, d3, d4, .val (tupD x.1), .val (.int x.2), .val (duoD p), .no] mu = _
      have i0 : fIx (duoD p) (.int 0) = some (.int p.1) := rfl
      have i1 : fIx (duoD p) (.int 1) = some (.int p.2) := rfl
      have ad : fAdd (tupD x.1) (.tuple [.int p.1]) = some (tupD (x.1 ++ [p.1])) := by
        unfold tupD
        rw [f_addT, if_pos (le_line (by simp; omega)), List.map_append]
        rfl
      simp [eVar, i0, i1, ad, le_line, wD]⟩
  have hf := (h.rows _ hr).few
  rw [q_comp, hi, bind_ok, hm]
  show (if ((rowAt s x.2).map fun p => wD (x.1 ++ [p.1], p.2)).length ≤ lineN then R.ok (PyData.list ((rowAt s x.2).map fun p => wD (x.1 ++ [p.1], p.2))) mu else .bad) = _
  rw [if_pos (le_line (by rw [List.length_map]; omega))]
  unfold wmore
  rw [List.map_map]
  rfl
theorem wlap_ok {s : Sky} (h : SkyOk s) {k : Nat} (hk : k < 6) {n : Int} {t3 t4 t5 t6 : Sl} (n4 : t4 ≠ .mug) (n5 : t5 ≠ .mug) (n6 : t6 ≠ .mug) {mu : Mu} :
    ∃ t5' t6' : Sl, t5' ≠ .mug ∧ t6' ≠ .mug ∧ wLap [.val (skyD s), .val (.int n), .val (.list ((wrows s k).map wD)), t3, t4, t5, t6, .no, .no] mu
      = .nx [.val (skyD s), .val (.int n), .val (.list ((wrows s (k + 1)).map wD)), t3, .val (.list ((wrows s (k + 1)).map wD)), t5', t6', .no, .no] mu := by
  have hS : sSet 4 (eLst aNil) [.val (skyD s), .val (.int n), .val (.list ((wrows s k).map wD)), t3, t4, t5, t6, .no, .no] mu = .nx [.val (skyD s), .val (.int n), .val (.list ((wrows s k).map wD)), t3, .val (.list []), t5, t6, .no, .no] mu := by
    rw [q_set, q_lst, q_anil, bind_ok, if_pos (le_line (by simp)), toS_ok, setSl_at (t := t4) rfl n4]
    rfl
  have hB := forS_inv (gm := mTup 2 (mCons (mName 5) (mCons (mName 6) mNil))) (enc := wD) (body := wBody)
    (fun i g mu' => mu' = mu ∧ ∃ t5 t6 : Sl, g = [.val (skyD s), .val (.int n), .val (.list ((wrows s k).map wD)), t3, .val (.list ((((wrows s k).take i).flatMap (wmore s)).map wD)), t5, t6, .no, .no] ∧ t5 ≠ .mug ∧ t6 ≠ .mug) (wrows s k) 0 _ mu ⟨rfl, t5, t6, rfl, n5, n6⟩ ?_
  · obtain ⟨g', mu', e, rfl, t5', t6', rfl, n5', n6'⟩ := hB
    rw [Nat.zero_add, List.take_length] at e
    refine ⟨t5', t6', n5', n6', ?_⟩
    have hi : iSeq (eVar 2) [.val (skyD s), .val (.int n), .val (.list ((wrows s k).map wD)), t3, .val (.list []), t5, t6, .no, .no] mu' = .ok ((wrows s k).map wD) mu' := rfl
    show sSeq _ (sSeq _ _) _ _ = _
    rw [q_seq, hS, seq_nx, q_seq, q_for, hi, toS_ok]
    have e' : forS (mTup 2 (mCons (mName 5) (mCons (mName 6) mNil))) wBody ((wrows s k).map wD) [.val (skyD s), .val (.int n), .val (.list ((wrows s k).map wD)), t3, .val (.list []), t5, t6, .no, .no] mu' = _ := e
    rw [e', seq_nx]
    rfl
  · rintro i x g mu' hx ⟨rfl, t5, t6, rfl, n5, n6⟩
    rw [Nat.zero_add]
    have hxm : x ∈ wrows s k := List.mem_of_getElem? hx
    have hil : i < (wrows s k).length := (List.getElem?_eq_some_iff.mp hx).1
    have hw := wrows_len h k
    have hp := pow_le (k := k) (by omega)
    have hr := (h.rows _ (rowAt_ok (wrows_ok h k x hxm).st).1).few
    have hfl := flat_len (f := wmore s) (c := 4) (xs := (wrows s k).take i) fun y hy => by
      have hy' : y ∈ wrows s k := List.mem_of_mem_take hy
      unfold wmore
      rw [List.length_map]
      exact (h.rows _ (rowAt_ok (wrows_ok h k y hy').st).1).few
    have htl : ((wrows s k).take i).length ≤ 4096 := by rw [List.length_take]; omega
    have hml : (wmore s x).length ≤ 4 := by unfold wmore; rw [List.length_map]; exact hr
    have ht : (wrows s k).take (i + 1) = (wrows s k).take i ++ [x] := by
      rw [List.take_add_one, hx]
      rfl
    refine ⟨_, mu', [.val (skyD s), .val (.int n), .val (.list ((wrows s k).map wD)), t3, .val (.list ((((wrows s k).take (i + 1)).flatMap (wmore s)).map wD)), .val (tupD x.1), .val (.int x.2), .no, .no], mu', two_set (s := t5) (t := t6) rfl n5 rfl n6 (by decide), ?_, rfl, _, _, rfl, by simp, by simp⟩
    have hc := wpiece h hk hxm (d1 := .val (.int n)) (d2 := .val (.list ((wrows s k).map wD))) (d3 := t3) (d4 := .val (.list ((((wrows s k).take i).flatMap (wmore s)).map wD))) (mu := mu')
    have ad : fAdd (.list ((((wrows s k).take i).flatMap (wmore s)).map wD)) (.list ((wmore s x).map wD)) = some (.list ((((wrows s k).take (i + 1)).flatMap (wmore s)).map wD)) := by
      rw [f_addL, if_pos (le_line (by rw [List.length_map, List.length_map]; omega)), ht, List.flatMap_append, List.map_append]
      simp
    show sSet 4 _ [.val (skyD s), .val (.int n), .val (.list ((wrows s k).map wD)), t3, .val (.list ((((wrows s k).take i).flatMap (wmore s)).map wD)), .val (tupD x.1), .val (.int x.2), .no, .no] mu' = _
    rw [q_set, q_op2]
    show ((R.ok (PyData.list ((((wrows s k).take i).flatMap (wmore s)).map wD)) mu').bind _).toS _ _ = _
    rw [bind_ok, hc, bind_ok, ad]
    rfl
theorem walks_ok {s : Sky} (h : SkyOk s) {n : Nat} (hn : 0 < n) (h6 : n ≤ 6) {mu : Mu} : fm__law_walks [.val (skyD s), .val (.int (n : Int))] mu = .ok (wordsD s n) mu := by
  refine body_rt ?_
  have hB := forS_inv (gm := mName 3) (enc := fun (i : Nat) => PyData.int (i : Int)) (body := wLap)
    (fun i g mu' => mu' = mu ∧ ∃ t3 t4 t5 t6 : Sl, g = [.val (skyD s), .val (.int (n : Int)), .val (.list ((wrows s i).map wD)), t3, t4, t5, t6, .no, .no] ∧ t3 ≠ .mug ∧ t4 ≠ .mug ∧ t5 ≠ .mug ∧ t6 ≠ .mug) (List.range n) 0 _ mu ⟨rfl, .no, .no, .no, .no, rfl, by simp, by simp, by simp, by simp⟩ ?_
  · obtain ⟨g', mu', e, rfl, t3, t4, t5, t6, rfl, _, _, _, _⟩ := hB
    rw [List.length_range, Nat.zero_add] at e
    have hr := iRange1_ok (am := aCons (eVar 1) aNil) (g := [.val (skyD s), .val (.int (n : Int)), .val (.list ((wrows s 0).map wD)), .no, .no, .no, .no, .no, .no]) (mu := mu') (mu1 := mu') (n := n) rfl (by omega)
    have hS : sSet 2 (eLst (aCons (eTup (aCons (eTup aNil) (aCons (eC (.int 0)) aNil))) aNil)) [.val (skyD s), .val (.int (n : Int)), .no, .no, .no, .no, .no, .no, .no] mu' = .nx [.val (skyD s), .val (.int (n : Int)), .val (.list ((wrows s 0).map wD)), .no, .no, .no, .no, .no, .no] mu' := by
      rw [q_set, init_rows]
      rfl
    have hi : iSeq (eVar 2) [.val (skyD s), .val (.int (n : Int)), .val (.list ((wrows s n).map wD)), t3, t4, t5, t6, .no, .no] mu' = .ok ((wrows s n).map wD) mu' := rfl
    have hm := compS_map (gm := mName 8) (mt := mYes) (me := eOp2 fIx (eVar 8) (eC (.int 0))) (enc := wD) (f := fun x => tupD x.1) (g := wipeG [.val (skyD s), .val (.int (n : Int)), .val (.list ((wrows s n).map wD)), t3, t4, t5, t6, .no, .no] [8]) (mu := mu') (xs := wrows s n)
      fun x hx => ⟨_, rfl, rfl, rfl⟩
    have hl := wrows_len h n
    have hp := pow_le h6
    have hc : eComp [8] (iSeq (eVar 2)) (mName 8) mYes (eOp2 fIx (eVar 8) (eC (.int 0))) [.val (skyD s), .val (.int (n : Int)), .val (.list ((wrows s n).map wD)), t3, t4, t5, t6, .no, .no] mu' = .ok (.list ((wrows s n).map fun x => tupD x.1)) mu' := by
      rw [q_comp, hi, bind_ok, hm]
      show (if ((wrows s n).map fun x => tupD x.1).length ≤ lineN then R.ok (PyData.list ((wrows s n).map fun x => tupD x.1)) mu' else .bad) = _
      rw [if_pos (le_line (by rw [List.length_map]; omega))]
    show sSeq _ (sSeq _ _) [.val (skyD s), .val (.int (n : Int)), .no, .no, .no, .no, .no, .no, .no] mu' = _
    rw [q_seq, hS, seq_nx, q_seq, q_for, hr, toS_ok, e, seq_nx, q_ret, q_call, q_acons, q_call, q_acons, hc, bind_ok, q_anil, bind_ok, bind_ok, sort_ok h hn]
    rfl
  · rintro i x g mu' hx ⟨rfl, t3, t4, t5, t6, rfl, n3, n4, n5, n6⟩
    have hi : i < n := by
      have := (List.getElem?_eq_some_iff.mp hx).1
      simpa using this
    rw [Nat.zero_add]
    obtain ⟨t5', t6', n5', n6', e⟩ := wlap_ok h (k := i) (by omega) (n := (n : Int)) (t3 := .val (.int (x : Int))) n4 n5 n6 (mu := mu')
    exact ⟨_, mu', _, mu', by rw [q_tname, setSl_at (t := t3) rfl n3]; rfl, e, rfl, _, _, _, _, rfl, by simp, by simp, n5', n6'⟩
end Wf.Law
/-! k73: is_word, follows. -/
namespace Wf.Law
open PySem L2 Wf

/-- the state behind the wind d -/
def nxt (s : Sky) (st : Int) (d : D) : Option Int := ((rowAt s st).find? fun p => betw d p.1 p.1).map (·.2)
def isw (s : Sky) : Int → List D → Bool
  | _, [] => true
  | st, d :: ds => match nxt s st d with
    | none => false
    | some t => isw s t ds
def wordB (s : Sky) : D → Bool
  | .tuple ds => isw s 0 ds
  | _ => false
def fine2 : D → Bool
  | .tuple ds => ds.all fine
  | d => fine d
theorem fine2_fine {d : D} (h : fine2 d = true) : fine d = true := by
  cases d <;> first | rfl | exact h
theorem nxt_ok {s : Sky} (h : SkyOk s) {st t : Int} {d : D} (hs : 0 ≤ st ∧ st < s.length) (e : nxt s st d = some t) : 0 ≤ t ∧ t < s.length := by
  unfold nxt at e
  cases q : (rowAt s st).find? fun p => betw d p.1 p.1 with
  | none => rw [q] at e; cases e
  | some p =>
    rw [q] at e
    injection e with e
    subst e
    exact (h.rows _ (rowAt_ok hs).1).goals p (List.mem_of_find?_eq_some q)
theorem find_filter {α : Type} {p : α → Bool} : ∀ xs : List α, xs.find? p = (xs.filter p).head?
  | [] => rfl
  | x :: xs => by
    cases h : p x with
    | true => rw [List.find?_cons_of_pos h, List.filter_cons_of_pos h]; rfl
    | false => rw [List.find?_cons_of_neg (by simp [h]), List.filter_cons_of_neg (by simp [h]), find_filter xs]
theorem eq_nil (ns : List Int) : fEq (.list (ns.map PyData.int)) (.list []) = some (.bool ns.isEmpty) := by
  have e1 : (PyData.list (ns.map PyData.int)).canLay0 = true := by simp only [PyData.canLay0]; exact can_ints ns
  have e2 : (PyData.list []).canLay0 = true := rfl
  have e3 : decide ((PyData.list []).depth ≤ 64) = true := rfl
  unfold fEq
  rw [e1, e2, e3]
  simp only [Bool.and_self, Bool.or_true, if_true]
  cases ns with
  | nil => rfl
  | cons n ns => rfl
/-- the law's way -/
theorem after_loop {s : Sky} {st w : Int} {mu : Mu} : ∀ (r : List (Int × Int)) (t3 t4 : Sl), t3 ≠ .mug → t4 ≠ .mug →
    (∃ t3' t4', t3' ≠ .mug ∧ t4' ≠ .mug ∧ r.find? (fun p => betw (.int w) p.1 p.1) = none ∧ forS (mTup 2 (mCons (mName 3) (mCons (mName 4) mNil))) (sIf (mT (eOp2 fEq (eVar 3) (eVar 2))) (sRet (eVar 4)) sPass) (r.map duoD) [.val (skyD s), .val (.int st), .val (.int w), t3, t4] mu = .nx [.val (skyD s), .val (.int st), .val (.int w), t3', t4'] mu) ∨
    ∃ p, r.find? (fun p => betw (.int w) p.1 p.1) = some p ∧ forS (mTup 2 (mCons (mName 3) (mCons (mName 4) mNil))) (sIf (mT (eOp2 fEq (eVar 3) (eVar 2))) (sRet (eVar 4)) sPass) (r.map duoD) [.val (skyD s), .val (.int st), .val (.int w), t3, t4] mu = .rt (.int p.2) mu
  | [], t3, t4, h3, h4 => .inl ⟨t3, t4, h3, h4, rfl, rfl⟩
  | p :: r, t3, t4, h3, h4 => by
    have e1 : mTup 2 (mCons (mName 3) (mCons (mName 4) mNil)) (duoD p) [.val (skyD s), .val (.int st), .val (.int w), t3, t4] mu = some ([.val (skyD s), .val (.int st), .val (.int w), .val (.int p.1), .val (.int p.2)], mu) := two_set (s := t3) (t := t4) rfl h3 rfl h4 (by decide)
    by_cases hw : p.1 = w
    · have hb : betw (.int w) p.1 p.1 = true := by simp [betw, hw]
      refine .inr ⟨p, List.find?_cons_of_pos hb, ?_⟩
      rw [List.map_cons]
      unfold forS
      rw [e1]
      dsimp only
      have e2 : sIf (mT (eOp2 fEq (eVar 3) (eVar 2))) (sRet (eVar 4)) sPass [.val (skyD s), .val (.int st), .val (.int w), .val (.int p.1), .val (.int p.2)] mu = .rt (.int p.2) mu := by
        simp [eVar, eq_int, hw]
      rw [e2]
    · have hb : ¬ betw (.int w) p.1 p.1 = true := by
        simp only [betw, Bool.and_eq_true, decide_eq_true_eq]
        omega
      have e2 : sIf (mT (eOp2 fEq (eVar 3) (eVar 2))) (sRet (eVar 4)) sPass [.val (skyD s), .val (.int st), .val (.int w), .val (.int p.1), .val (.int p.2)] mu = .nx [.val (skyD s), .val (.int st), .val (.int w), .val (.int p.1), .val (.int p.2)] mu := by
        simp [eVar, eq_int, hw]
      have ih := after_loop (s := s) (st := st) (w := w) (mu := mu) r (.val (.int p.1)) (.val (.int p.2)) (by simp) (by simp)
      have e3 : forS (mTup 2 (mCons (mName 3) (mCons (mName 4) mNil))) (sIf (mT (eOp2 fEq (eVar 3) (eVar 2))) (sRet (eVar 4)) sPass) ((p :: r).map duoD) [.val (skyD s), .val (.int st), .val (.int w), t3, t4] mu =
          forS (mTup 2 (mCons (mName 3) (mCons (mName 4) mNil))) (sIf (mT (eOp2 fEq (eVar 3) (eVar 2))) (sRet (eVar 4)) sPass) (r.map duoD) [.val (skyD s), .val (.int st), .val (.int w), .val (.int p.1), .val (.int p.2)] mu := by
        rw [List.map_cons]
        conv => lhs; unfold forS
        rw [e1]
        dsimp only
        rw [e2]
      have hfi : (p :: r).find? (fun p => betw (.int w) p.1 p.1) = r.find? (fun p => betw (.int w) p.1 p.1) := List.find?_cons_of_neg hb
      rw [e3, hfi]
      exact ih
theorem after_ok {s : Sky} {st w : Int} (hs : 0 ≤ st ∧ st < s.length) {mu : Mu} : fm__law_after [.val (skyD s), .val (.int st), .val (.int w)] mu = .ok (.int ((nxt s st (.int w)).getD (-1))) mu := by
  obtain ⟨_, ha⟩ := rowAt_ok hs
  have hi : iSeq (eOp2 fIx (eVar 0) (eVar 1)) [.val (skyD s), .val (.int st), .val (.int w), .no, .no] mu = .ok ((rowAt s st).map duoD) mu := by
    have hx0 : fIx (skyD s) (.int st) = some (rowD (rowAt s st)) := ha
    simp [eVar, hx0, rowD]
  refine body_rt ?_
  show sSeq _ _ [.val (skyD s), .val (.int st), .val (.int w), .no, .no] mu = _
  rw [q_seq, q_for, hi, toS_ok]
  rcases after_loop (s := s) (st := st) (w := w) (mu := mu) (rowAt s st) .no .no (by simp) (by simp) with ⟨t3, t4, _, _, e, e2⟩ | ⟨p, e, e2⟩
  · rw [e2, seq_nx]
    unfold nxt
    rw [e]
    simp
  · rw [e2, seq_rt]
    unfold nxt
    rw [e]
    rfl
noncomputable abbrev fBody : SM := sSeq (sSet 2 (eIf (mTru (eFn fm__law_is_int (bCons (eVar 3) bNil))) (eFn fm__law_after (bCons (eVar 0) (bCons (eVar 2) (bCons (eVar 3) bNil)))) (eOp1 fNeg (eC (.int 1))))) (sIf (mT (eOp2 fLt (eVar 2) (eC (.int 0)))) (sRet (eC (.bool false))) sPass)
theorem nxt_none {s : Sky} {st : Int} {d : D} (h : whole d = none) : nxt s st d = none := by
  unfold nxt
  have e : ∀ p : Int × Int, betw d p.1 p.1 = false := fun p => by cases d <;> first | rfl | cases h
  rw [List.find?_eq_none.mpr fun p _ => by rw [e p]; simp]
  rfl
theorem fturn {s : Sky} (h : SkyOk s) {st : Int} (hs : 0 ≤ st ∧ st < s.length) {d td : D} (hd : fine d = true) {mu : Mu} :
    fBody [.val (skyD s), .val td, .val (.int st), .val d] mu = match nxt s st d with
      | none => .rt (.bool false) mu
      | some t => .nx [.val (skyD s), .val td, .val (.int t), .val d] mu := by
  have w := isint_ok (mu := []) hd
  cases q : whole d with
  | none =>
    rw [nxt_none q]
    rw [q] at w
    simp [eVar, w, setSl]
  | some i =>
    have e : d = .int i := by
      cases d <;> first | cases q; rfl | cases q
    subst e
    rw [q] at w
    have a := after_ok (s := s) (st := st) (w := i) hs (mu := [])
    cases q2 : nxt s st (.int i) with
    | none =>
      rw [q2] at a
      simp [eVar, w, a, setSl]
    | some t =>
      rw [q2] at a
      have t0 := nxt_ok h hs q2
      have t1 : ¬ t < 0 := by omega
      simp [eVar, w, a, setSl, t1]
theorem follows_loop {s : Sky} (h : SkyOk s) {td : D} {mu : Mu} : ∀ (ds : List D) (st : Int) (t3 : Sl), 0 ≤ st ∧ st < s.length → t3 ≠ .mug → ds.all fine = true →
    (sFor (iSeq (eC (.tuple ds))) (mName 3) fBody [.val (skyD s), .val td, .val (.int st), t3] mu).seq (sRet (eC (.bool true))) = .rt (.bool (isw s st ds)) mu
  | [], st, t3, hs, h3, hf => rfl
  | d :: ds, st, t3, hs, h3, hf => by
    rw [List.all_cons, Bool.and_eq_true] at hf
    have e1 : mName 3 d [.val (skyD s), .val td, .val (.int st), t3] mu = some ([.val (skyD s), .val td, .val (.int st), .val d], mu) := by
      rw [q_tname, setSl_at (t := t3) rfl h3]
      rfl
    have e2 := fturn h hs (td := td) hf.1 (mu := mu)
    show ((R.ok (d :: ds) mu).toS _ fun ds mu1 => forS (mName 3) fBody ds _ mu1).seq _ = _
    rw [toS_ok]
    unfold forS isw
    rw [e1]
    dsimp only
    rw [e2]
    cases q : nxt s st d with
    | none => rfl
    | some t => exact follows_loop h ds t (.val d) (nxt_ok h hs q) (by simp) hf.2
theorem follows_ok {s : Sky} (h : SkyOk s) {d : D} (hf : fine2 d = true) {mu : Mu} : fm__law_follows [.val (skyD s), .val d] mu = .ok (.bool (wordB s d)) mu := by
  have h1 := e_tuple (m := eVar 1) (g := [.val (skyD s), .val d, .no, .no]) (mu := mu) (d := d) rfl (fine2_fine hf)
  have hp := h.pos
  refine body_rt ?_
  show sSeq _ (sSeq _ (sSeq _ _)) [.val (skyD s), .val d, .no, .no] mu = _
  by_cases ht : ∃ ds, d = .tuple ds
  · obtain ⟨ds, rfl⟩ := ht
    have hA : sIf (mNot (mTru (eIsi "tuple" (eVar 1)))) (sRet (eC (.bool false))) sPass [.val (skyD s), .val (.tuple ds), .no, .no] mu = .nx [.val (skyD s), .val (.tuple ds), .no, .no] mu := by
      simp [h1, isTu]
    have hB : sSet 2 (eC (.int 0)) [.val (skyD s), .val (.tuple ds), .no, .no] mu = .nx [.val (skyD s), .val (.tuple ds), .val (.int 0), .no] mu := rfl
    have hC := follows_loop h (td := .tuple ds) (mu := mu) ds 0 .no ⟨by omega, by omega⟩ (by simp) hf
    rw [q_seq, hA, seq_nx, q_seq, hB, seq_nx, q_seq]
    exact hC
  · have hn : isTu d = false := by cases d <;> first | rfl | exact absurd ⟨_, rfl⟩ ht
    have hw : wordB s d = false := by cases d <;> first | rfl | exact absurd ⟨_, rfl⟩ ht
    rw [hw]
    rw [hn] at h1
    simp [h1]

/-! ### the program's way -/
noncomputable abbrev sBody : SM := sSeq (sSet 4 (eComp [5, 6] (iSeq (eOp2 fIx (eVar 0) (eVar 2))) (mTup 2 (mCons (mName 5) (mCons (mName 6) mNil))) (mTru (eFn fm_is_between (bCons (eVar 3) (bCons (eVar 5) (bCons (eVar 5) bNil))))) (eVar 6))) (sSeq (sIf (mT (eOp2 fEq (eVar 4) (eLst aNil))) (sRet (eC (.bool false))) sPass) (sSet 2 (eOp2 fIx (eVar 4) (eC (.int 0)))))
theorem sturn {s : Sky} (h : SkyOk s) {st : Int} (hs : 0 ≤ st ∧ st < s.length) {d td : D} (hd : fine d = true) {t4 : Sl} (h4 : t4 ≠ .mug) {mu : Mu} :
    ∃ t4', t4' ≠ .mug ∧ sBody [.val (skyD s), .val td, .val (.int st), .val d, t4, .no, .no] mu = match nxt s st d with
      | none => .rt (.bool false) mu
      | some t => .nx [.val (skyD s), .val td, .val (.int t), .val d, t4', .no, .no] mu := by
  obtain ⟨hr, ha⟩ := rowAt_ok hs
  have hi : iSeq (eOp2 fIx (eVar 0) (eVar 2)) [.val (skyD s), .val td, .val (.int st), .val d, t4, .no, .no] mu = .ok ((rowAt s st).map duoD) mu := by
    have hx0 : fIx (skyD s) (.int st) = some (rowD (rowAt s st)) := ha
    simp [eVar, hx0, rowD]
  have hm := compS_filter (gm := mTup 2 (mCons (mName 5) (mCons (mName 6) mNil))) (mt := mTru (eFn fm_is_between (bCons (eVar 3) (bCons (eVar 5) (bCons (eVar 5) bNil))))) (me := eVar 6) (enc := duoD) (f := fun p : Int × Int => PyData.int p.2) (p := fun p => betw d p.1 p.1)
    (g := wipeG [.val (skyD s), .val td, .val (.int st), .val d, t4, .no, .no] [5, 6]) (mu := mu) (xs := rowAt s st) fun p hp => ⟨[.val (skyD s), .val td, .val (.int st), .val d, t4, .val (.int p.1), .val (.int p.2)], two_set (s := .no) (t := .no) rfl (by simp) rfl (by simp) (by decide), by
      have z := between_ok (d := d) (lo := p.1) (hi := p.1) (mu := []) hd
      simp [eVar, z], fun _ => rfl⟩
  have hf := (h.rows _ hr).few
  have hfl : ((rowAt s st).filter fun p => betw d p.1 p.1).length ≤ 4 := Nat.le_trans (List.length_filter_le _ _) hf
  have hc : eComp [5, 6] (iSeq (eOp2 fIx (eVar 0) (eVar 2))) (mTup 2 (mCons (mName 5) (mCons (mName 6) mNil))) (mTru (eFn fm_is_between (bCons (eVar 3) (bCons (eVar 5) (bCons (eVar 5) bNil))))) (eVar 6) [.val (skyD s), .val td, .val (.int st), .val d, t4, .no, .no] mu
      = .ok (.list ((((rowAt s st).filter fun p => betw d p.1 p.1).map (·.2)).map PyData.int)) mu := by
    rw [q_comp, hi, bind_ok, hm]
    show (if (((rowAt s st).filter fun p => betw d p.1 p.1).map fun p : Int × Int => PyData.int p.2).length ≤ lineN then R.ok (PyData.list (((rowAt s st).filter fun p => betw d p.1 p.1).map fun p : Int × Int => PyData.int p.2)) mu else .bad) = _
    rw [if_pos (le_line (by rw [List.length_map]; omega)), List.map_map]
    rfl
  have hS : ∀ L : List D, sNx (setSl [.val (skyD s), .val td, .val (.int st), .val d, t4, .no, .no] 4 (.val (.list L))) mu = .nx [.val (skyD s), .val td, .val (.int st), .val d, .val (.list L), .no, .no] mu := fun L => by
    rw [setSl_at (t := t4) rfl h4]
    rfl
  refine ⟨.val (.list ((((rowAt s st).filter fun p => betw d p.1 p.1).map (·.2)).map PyData.int)), by simp, ?_⟩
  show sSeq _ _ _ mu = _
  rw [q_seq, q_set, hc, toS_ok, hS, seq_nx]
  unfold nxt
  rw [find_filter]
  have en := eq_nil (((rowAt s st).filter fun p => betw d p.1 p.1).map (·.2))
  cases q : (rowAt s st).filter fun p => betw d p.1 p.1 with
  | nil =>
    rw [q] at en
    have en' : fEq (.list []) (.list []) = some (.bool true) := en
    simp [eVar, en', le_line]
  | cons p r =>
    rw [q] at en
    have en' : fEq (.list (.int p.2 :: (r.map (·.2)).map PyData.int)) (.list []) = some (.bool false) := en
    have at0 : atI (.int p.2 :: (r.map (·.2)).map PyData.int) 0 = some (.int p.2) := atI_of (by decide) rfl
    rw [List.map_cons, List.map_cons]
    generalize (r.map (·.2)).map PyData.int = L at en' at0 ⊢
    simp [eVar, en', at0, le_line, setSl]
theorem isword_loop {s : Sky} (h : SkyOk s) {td : D} {mu : Mu} : ∀ (ds : List D) (st : Int) (t3 t4 : Sl), 0 ≤ st ∧ st < s.length → t3 ≠ .mug → t4 ≠ .mug → ds.all fine = true →
    (sFor (iSeq (eC (.tuple ds))) (mName 3) sBody [.val (skyD s), .val td, .val (.int st), t3, t4, .no, .no] mu).seq (sRet (eC (.bool true))) = .rt (.bool (isw s st ds)) mu
  | [], st, t3, t4, hs, h3, h4, hf => rfl
  | d :: ds, st, t3, t4, hs, h3, h4, hf => by
    rw [List.all_cons, Bool.and_eq_true] at hf
    have e1 : mName 3 d [.val (skyD s), .val td, .val (.int st), t3, t4, .no, .no] mu = some ([.val (skyD s), .val td, .val (.int st), .val d, t4, .no, .no], mu) := by
      rw [q_tname, setSl_at (t := t3) rfl h3]
      rfl
    obtain ⟨t4', h4', e2⟩ := sturn h hs (td := td) hf.1 h4 (mu := mu)
    show ((R.ok (d :: ds) mu).toS _ fun ds mu1 => forS (mName 3) sBody ds _ mu1).seq _ = _
    rw [toS_ok]
    unfold forS isw
    rw [e1]
    dsimp only
    rw [e2]
    cases q : nxt s st d with
    | none => rfl
    | some t => exact isword_loop h ds t (.val d) t4' (nxt_ok h hs q) (by simp) h4' hf.2
theorem isword_ok {s : Sky} (h : SkyOk s) {d : D} (hf : fine2 d = true) {mu : Mu} : fm_is_word [.val (skyD s), .val d] mu = .ok (.bool (wordB s d)) mu := by
  have h1 := e_tuple (m := eVar 1) (g := [.val (skyD s), .val d, .no, .no, .no, .no, .no]) (mu := mu) (d := d) rfl (fine2_fine hf)
  have c1 := checkw_ok (mu := []) h
  have hp := h.pos
  have hD : sDrop (eFn fm_check_weather (bCons (eVar 0) bNil)) [.val (skyD s), .val d, .no, .no, .no, .no, .no] mu = .nx [.val (skyD s), .val d, .no, .no, .no, .no, .no] mu := by
    simp [eVar, c1]
  refine body_rt ?_
  show sSeq _ (sSeq _ (sSeq _ (sSeq _ _))) [.val (skyD s), .val d, .no, .no, .no, .no, .no] mu = _
  rw [q_seq, hD, seq_nx]
  by_cases ht : ∃ ds, d = .tuple ds
  · obtain ⟨ds, rfl⟩ := ht
    have hA : sIf (mNot (mTru (eIsi "tuple" (eVar 1)))) (sRet (eC (.bool false))) sPass [.val (skyD s), .val (.tuple ds), .no, .no, .no, .no, .no] mu = .nx [.val (skyD s), .val (.tuple ds), .no, .no, .no, .no, .no] mu := by
      simp [h1, isTu]
    have hB : sSet 2 (eC (.int 0)) [.val (skyD s), .val (.tuple ds), .no, .no, .no, .no, .no] mu = .nx [.val (skyD s), .val (.tuple ds), .val (.int 0), .no, .no, .no, .no] mu := rfl
    have hC := isword_loop h (td := .tuple ds) (mu := mu) ds 0 .no .no ⟨by omega, by omega⟩ (by simp) (by simp) hf
    rw [q_seq, hA, seq_nx, q_seq, hB, seq_nx, q_seq]
    exact hC
  · have hn : isTu d = false := by cases d <;> first | rfl | exact absurd ⟨_, rfl⟩ ht
    have hw : wordB s d = false := by cases d <;> first | rfl | exact absurd ⟨_, rfl⟩ ht
    rw [hw]
    rw [hn] at h1
    simp [h1]
end Wf.Law
/-! k73: walked, bent, odd, told. -/
namespace Wf.Law
open PySem L2 Wf

def trip (s : Sky) : Int → List D → Option Int
  | st, [] => some st
  | st, d :: ds => (nxt s st d).bind fun t => trip s t ds
theorem isw_trip {s : Sky} : ∀ (ds : List D) (st : Int), isw s st ds = (trip s st ds).isSome
  | [], _ => rfl
  | d :: ds, st => by
    unfold isw trip
    cases q : nxt s st d with
    | none => rfl
    | some t => exact isw_trip ds t
theorem trip_app {s : Sky} {d : D} : ∀ (ds : List D) (st : Int), trip s st (ds ++ [d]) = (trip s st ds).bind fun t => nxt s t d
  | [], st => by
    show (nxt s st d).bind (fun t => some t) = nxt s st d
    cases nxt s st d <;> rfl
  | e :: ds, st => by
    show (nxt s st e).bind (fun t => trip s t (ds ++ [d])) = ((nxt s st e).bind fun t => trip s t ds).bind fun t => nxt s t d
    cases nxt s st e with
    | none => rfl
    | some t => exact trip_app ds t
theorem find_nd : ∀ {r : List (Int × Int)} {p : Int × Int}, (r.map (·.1)).Nodup → p ∈ r → r.find? (fun q => betw (.int p.1) q.1 q.1) = some p
  | [], p, _, h => absurd h List.not_mem_nil
  | q :: r, p, nd, h => by
    rw [List.map_cons, List.nodup_cons] at nd
    rcases List.mem_cons.mp h with e | h
    · subst e
      exact List.find?_cons_of_pos (by simp [betw])
    · have ne : ¬ q.1 = p.1 := fun e => nd.1 (by rw [e]; exact List.mem_map.mpr ⟨p, h, rfl⟩)
      have hb : ¬ betw (.int p.1) q.1 q.1 = true := by
        simp only [betw, Bool.and_eq_true, decide_eq_true_eq]
        omega
      have z : (q :: r).find? (fun q => betw (.int p.1) q.1 q.1) = r.find? (fun q => betw (.int p.1) q.1 q.1) := List.find?_cons_of_neg hb
      rw [z]
      exact find_nd nd.2 h
theorem nxt_mem {s : Sky} (h : SkyOk s) {st : Int} (hs : 0 ≤ st ∧ st < s.length) {p : Int × Int} (hp : p ∈ rowAt s st) : nxt s st (.int p.1) = some p.2 := by
  unfold nxt
  rw [find_nd (h.rows _ (rowAt_ok hs).1).nd hp]
  rfl
noncomputable abbrev kBody : SM := sSeq (sAsg (eFnM fm__law_pick (bMug 0 (bCons (eOp2 fIx (eVar 1) (eVar 4)) bNil))) (mTup 2 (mCons (mName 6) (mCons (mName 4) mNil)))) (sSet 3 (eOp2 fAdd (eVar 3) (eTup (aCons (eVar 6) aNil))))
theorem walked_ok {s : Sky} (h : SkyOk s) {n m : Nat} {mu : Mu} (hM : Mg n mu) (hn : n ≤ 800000000) (hm : m ≤ 12) :
    ∃ (w : List Int) (mu' : Mu), fm__law_walked [.mug, .val (skyD s), .val (.int (m : Int))] mu = .ok (tupD w) mu' ∧ w.length = m ∧ wordB s (tupD w) = true ∧ Mg (n + m) mu' := by
  have hp := h.pos
  have hB := forS_inv (gm := mName 5) (enc := fun (i : Nat) => PyData.int (i : Int)) (body := kBody)
    (fun i g mu' => Mg (n + i) mu' ∧ ∃ (w : List Int) (st : Int) (t5 t6 : Sl), g = [.mug, .val (skyD s), .val (.int (m : Int)), .val (tupD w), .val (.int st), t5, t6] ∧ t5 ≠ .mug ∧ t6 ≠ .mug ∧ w.length = i ∧ (0 ≤ st ∧ st < s.length) ∧ trip s 0 (w.map PyData.int) = some st) (List.range m) 0 [.mug, .val (skyD s), .val (.int (m : Int)), .val (tupD []), .val (.int 0), .no, .no] mu
    ⟨hM, [], 0, .no, .no, rfl, by simp, by simp, rfl, ⟨by omega, by omega⟩, rfl⟩ ?_
  · obtain ⟨g', mu', e, hM', w, st, t5, t6, rfl, _, _, hl, _, hr⟩ := hB
    rw [List.length_range, Nat.zero_add] at hM' hl
    refine ⟨w, mu', ?_, hl, ?_, hM'⟩
    · refine body_rt ?_
      have hA : sAsg (eTup (aCons (eTup aNil) (aCons (eC (.int 0)) aNil))) (mTup 2 (mCons (mName 3) (mCons (mName 4) mNil))) [.mug, .val (skyD s), .val (.int (m : Int)), .no, .no, .no, .no] mu = .nx [.mug, .val (skyD s), .val (.int (m : Int)), .val (tupD []), .val (.int 0), .no, .no] mu := by
        have h1 : eTup (aCons (eTup aNil) (aCons (eC (.int 0)) aNil)) [.mug, .val (skyD s), .val (.int (m : Int)), .no, .no, .no, .no] mu = .ok (.tuple [tupD [], .int 0]) mu := by
          simp [le_line, tupD]
        rw [q_asg, h1, toS_ok, two_set (s := .no) (t := .no) rfl (by simp) rfl (by simp) (by decide)]
        rfl
      have hr2 := iRange1_ok (am := aCons (eVar 2) aNil) (g := [.mug, .val (skyD s), .val (.int (m : Int)), .val (tupD []), .val (.int 0), .no, .no]) (mu := mu) (mu1 := mu) (n := m) rfl (by omega)
      show sSeq _ (sSeq _ _) [.mug, .val (skyD s), .val (.int (m : Int)), .no, .no, .no, .no] mu = _
      rw [q_seq, hA, seq_nx, q_seq, q_for, hr2, toS_ok, e, seq_nx]
      rfl
    · show isw s 0 (w.map PyData.int) = true
      rw [isw_trip, hr]
      rfl
  · rintro i x g mu' hx ⟨hM', w, st, t5, t6, rfl, n5, n6, hl, hs, hr⟩
    rw [Nat.zero_add] at hM' hl ⊢
    have hi : i < m := by
      have := (List.getElem?_eq_some_iff.mp hx).1
      simpa using this
    obtain ⟨hrow, ha⟩ := rowAt_ok hs
    have rk := h.rows _ hrow
    obtain ⟨d, mu2, e1, hd, hM2⟩ := pick_ok (ds := (rowAt s st).map duoD) (s := rowD (rowAt s st)) (.inr rfl) hM' (by omega) (by rw [List.length_map]; exact rk.pos) (by rw [List.length_map]; have := rk.few; omega)
    obtain ⟨p, hpm, rfl⟩ := List.mem_map.mp hd
    refine ⟨[.mug, .val (skyD s), .val (.int (m : Int)), .val (tupD w), .val (.int st), .val (.int (x : Int)), t6], mu', [.mug, .val (skyD s), .val (.int (m : Int)), .val (tupD (w ++ [p.1])), .val (.int p.2), .val (.int (x : Int)), .val (.int p.1)], mu2, by rw [q_tname, setSl_at (t := t5) rfl n5]; rfl, ?_, hM2, w ++ [p.1], p.2, _, _, rfl, by simp, by simp, by rw [List.length_append, hl]; rfl, rk.goals p hpm, ?_⟩
    · have hx0 : fIx (skyD s) (.int st) = some (rowD (rowAt s st)) := ha
      have hc : eFnM fm__law_pick (bMug 0 (bCons (eOp2 fIx (eVar 1) (eVar 4)) bNil)) [.mug, .val (skyD s), .val (.int (m : Int)), .val (tupD w), .val (.int st), .val (.int (x : Int)), t6] mu' = .ok (duoD p) mu2 := by
        simp [bMug, eVar, hx0, e1]
      have hA : sAsg (eFnM fm__law_pick (bMug 0 (bCons (eOp2 fIx (eVar 1) (eVar 4)) bNil))) (mTup 2 (mCons (mName 6) (mCons (mName 4) mNil))) [.mug, .val (skyD s), .val (.int (m : Int)), .val (tupD w), .val (.int st), .val (.int (x : Int)), t6] mu' = .nx [.mug, .val (skyD s), .val (.int (m : Int)), .val (tupD w), .val (.int p.2), .val (.int (x : Int)), .val (.int p.1)] mu2 := by
        rw [q_asg, hc, toS_ok]
        show (match mTup 2 (mCons (mName 6) (mCons (mName 4) mNil)) (.tuple [.int p.1, .int p.2]) [.mug, .val (skyD s), .val (.int (m : Int)), .val (tupD w), .val (.int st), .val (.int (x : Int)), t6] mu2 with
          | some (g', mu') => RS.nx g' mu'
          | none => .bad) = _
        rw [two_set (s := t6) (t := .val (.int st)) rfl n6 rfl (by simp) (by decide)]
        rfl
      have ad : fAdd (tupD w) (.tuple [.int p.1]) = some (tupD (w ++ [p.1])) := by
        unfold tupD
        rw [f_addT, if_pos (le_line (by simp; omega)), List.map_append]
        rfl
      show sSeq _ _ _ mu' = _
      rw [q_seq, hA, seq_nx]
      simp [eVar, ad, le_line, setSl]
    · rw [List.map_append]
      show trip s 0 (w.map PyData.int ++ [.int p.1]) = _
      rw [trip_app, hr]
      exact nxt_mem h hs hpm

/-! ### bent words -/
theorem pow30 : fPow (.int 10) (.int 30) = some (.int (10 ^ 30)) := f_pow (by decide) (by decide) (by decide)
theorem all_take {p : D → Bool} {ds : List D} (h : ds.all p = true) (j : Nat) : (ds.take j).all p = true := List.all_eq_true.mpr fun x hx => List.all_eq_true.mp h x (List.mem_of_mem_take hx)
theorem all_drop {p : D → Bool} {ds : List D} (h : ds.all p = true) (j : Nat) : (ds.drop j).all p = true := List.all_eq_true.mpr fun x hx => List.all_eq_true.mp h x (List.mem_of_mem_drop hx)
theorem bent_ok {ds : List D} {n : Nat} {mu : Mu} (hM : Mg n mu) (hn : n ≤ 800000000) (hf : ds.all fine = true) (hl : ds.length ≤ 1000) :
    ∃ (d : D) (mu' : Mu), fm__law_bent [.mug, .val (.tuple ds)] mu = .ok d mu' ∧ fine2 d = true ∧ Mg (n + 3) mu' := by
  obtain ⟨r1, mu1, e1, a0, a1, h1⟩ := dip_ok (k := 6) hM (by omega) (by decide) (by decide)
  obtain ⟨r2, mu2, e2, b0, b1, h2⟩ := dip_ok (k := (ds.length : Int) + 1) h1 (by omega) (by omega) (by omega)
  obtain ⟨t, mu3, e3, ht, h3⟩ := pick_ok (ds := [.int 0, .int 1, .int 2, .int 3, .int 4, .int (-1), .bool true, .str "0", .none, .int (10 ^ 30)]) (.inl rfl) h2 (by omega) (by simp) (by simp)
  have tf : fine t = true := by
    simp only [List.mem_cons, List.not_mem_nil, or_false] at ht
    rcases ht with rfl | rfl | rfl | rfl | rfl | rfl | rfl | rfl | rfl | rfl <;> rfl
  obtain ⟨j, rfl⟩ : ∃ j : Nat, r2 = (j : Int) := ⟨r2.toNat, by omega⟩
  have hj : j ≤ ds.length := by omega
  have hA : sParO [2, 3, 4] (pVal (eFnM fm__law_dip (bMug 0 (bCons (eC (.int 6)) bNil))) (pVal (eFnM fm__law_dip (bMug 0 (bCons (eOp2 fAdd (eCall fLen (aCons (eVar 1) aNil)) (eC (.int 1))) bNil))) (pVal (eFnM fm__law_pick (bMug 0 (bCons (eLst (aCons (eC (.int 0)) (aCons (eC (.int 1)) (aCons (eC (.int 2)) (aCons (eC (.int 3)) (aCons (eC (.int 4)) (aCons (eOp1 fNeg (eC (.int 1))) (aCons (eC (.bool true)) (aCons (eC (.str "0")) (aCons (eC .none) (aCons (eOp2 fPow (eC (.int 10)) (eC (.int 30))) aNil))))))))))) bNil))) pNil))) [.mug, .val (.tuple ds), .no, .no, .no] mu
      = .nx [.mug, .val (.tuple ds), .val (.int r1), .val (.int (j : Int)), .val t] mu3 := by
    have p1 : eFnM fm__law_dip (bMug 0 (bCons (eC (.int 6)) bNil)) [.mug, .val (.tuple ds), .no, .no, .no] mu = .ok (.int r1) mu1 := by simp [bMug, e1]
    have p2 : eFnM fm__law_dip (bMug 0 (bCons (eOp2 fAdd (eCall fLen (aCons (eVar 1) aNil)) (eC (.int 1))) bNil)) [.mug, .val (.tuple ds), .no, .no, .no] mu1 = .ok (.int (j : Int)) mu2 := by simp [bMug, eVar, e2]
    have p3 : eFnM fm__law_pick (bMug 0 (bCons (eLst (aCons (eC (.int 0)) (aCons (eC (.int 1)) (aCons (eC (.int 2)) (aCons (eC (.int 3)) (aCons (eC (.int 4)) (aCons (eOp1 fNeg (eC (.int 1))) (aCons (eC (.bool true)) (aCons (eC (.str "0")) (aCons (eC .none) (aCons (eOp2 fPow (eC (.int 10)) (eC (.int 30))) aNil))))))))))) bNil)) [.mug, .val (.tuple ds), .no, .no, .no] mu2 = .ok t mu3 := by
      have q : eLst (aCons (eC (.int 0)) (aCons (eC (.int 1)) (aCons (eC (.int 2)) (aCons (eC (.int 3)) (aCons (eC (.int 4)) (aCons (eOp1 fNeg (eC (.int 1))) (aCons (eC (.bool true)) (aCons (eC (.str "0")) (aCons (eC .none) (aCons (eOp2 fPow (eC (.int 10)) (eC (.int 30))) aNil)))))))))) [.mug, .val (.tuple ds), .no, .no, .no] mu2 = .ok (.list [.int 0, .int 1, .int 2, .int 3, .int 4, .int (-1), .bool true, .str "0", .none, .int (10 ^ 30)]) mu2 := by
        simp only [q_lst, q_acons, q_c, q_op1, q_op2, bind_ok, q_anil, f_neg, pow30]
        rw [if_pos (le_line (by simp))]
      simp only [q_fnM, bMug, List.getElem?_cons_zero, q_bcons, q, bind_ok, q_bnil, e3]
    rw [q_parO, q_pval, p1, bind_ok, q_pval, p2, bind_ok, q_pval, p3, bind_ok, q_pnil]
    rfl
  have c1 : eCut (eVar 1) oNo (oSo (eVar 3)) [.mug, .val (.tuple ds), .val (.int r1), .val (.int (j : Int)), .val t] mu3 = .ok (.tuple (ds.take j)) mu3 := by
    show R.ok (PyData.tuple (cutD ds none (some (j : Int)))) mu3 = _
    rw [cut_take]
  have c2 : eCut (eVar 1) (oSo (eVar 3)) oNo [.mug, .val (.tuple ds), .val (.int r1), .val (.int (j : Int)), .val t] mu3 = .ok (.tuple (ds.drop j)) mu3 := by
    show R.ok (PyData.tuple (cutD ds (some (j : Int)) none)) mu3 = _
    rw [cut_drop]
  have c3 : eCut (eVar 1) (oSo (eOp2 fAdd (eVar 3) (eC (.int 1)))) oNo [.mug, .val (.tuple ds), .val (.int r1), .val (.int (j : Int)), .val t] mu3 = .ok (.tuple (ds.drop (j + 1))) mu3 := by
    show R.ok (PyData.tuple (cutD ds (some (((j + 1 : Nat)) : Int)) none)) mu3 = _
    rw [cut_drop]
  have c4 : eTup (aCons (eVar 4) aNil) [.mug, .val (.tuple ds), .val (.int r1), .val (.int (j : Int)), .val t] mu3 = .ok (.tuple [t]) mu3 := by
    rw [q_tup]
    show (if [t].length ≤ lineN then R.ok (PyData.tuple [t]) mu3 else .bad) = _
    rw [if_pos (le_line (by simp))]
  have l1 : (ds.take j).length ≤ 1000 := by rw [List.length_take]; omega
  have l2 : (ds.drop j).length ≤ 1000 := by rw [List.length_drop]; omega
  have l3 : (ds.drop (j + 1)).length ≤ 1000 := by rw [List.length_drop]; omega
  have f1 := all_take hf j
  have f2 := all_drop hf j
  have f3 := all_drop hf (j + 1)
  generalize ds.take j = A at c1 l1 f1
  generalize ds.drop j = B at c2 l2 f2
  generalize ds.drop (j + 1) = C at c3 l3 f3
  have addT : ∀ {x y : List D}, x.length ≤ 3000 → y.length ≤ 3000 → fAdd (.tuple x) (.tuple y) = some (.tuple (x ++ y)) := fun {x y} hx hy => by
    rw [f_addT, if_pos (le_line (by omega))]
  have fin : ∀ d, (sSeq (sIf (mT (eOp2 fEq (eVar 2) (eC (.int 0)))) (sRet (eCall fList (aCons (eVar 1) aNil))) sPass) (sSeq (sIf (mT (eOp2 fEq (eVar 2) (eC (.int 1)))) (sRet (eOp2 fAdd (eCut (eVar 1) oNo (oSo (eVar 3))) (eCut (eVar 1) (oSo (eOp2 fAdd (eVar 3) (eC (.int 1)))) oNo))) sPass) (sSeq (sIf (mT (eOp2 fEq (eVar 2) (eC (.int 2)))) (sRet (eOp2 fAdd (eOp2 fAdd (eCut (eVar 1) oNo (oSo (eVar 3))) (eTup (aCons (eVar 4) aNil))) (eCut (eVar 1) (oSo (eVar 3)) oNo))) sPass) (sSeq (sIf (mT (eOp2 fEq (eVar 2) (eC (.int 3)))) (sRet (eOp2 fAdd (eOp2 fAdd (eCut (eVar 1) oNo (oSo (eVar 3))) (eCut (eVar 1) oNo (oSo (eVar 3)))) (eCut (eVar 1) (oSo (eVar 3)) oNo))) sPass) (sRet (eOp2 fAdd (eOp2 fAdd (eCut (eVar 1) oNo (oSo (eVar 3))) (eTup (aCons (eVar 4) aNil))) (eCut (eVar 1) (oSo (eOp2 fAdd (eVar 3) (eC (.int 1)))) oNo))))))) [.mug, .val (.tuple ds), .val (.int r1), .val (.int (j : Int)), .val t] mu3 = .rt d mu3 → fine2 d = true →
      ∃ (d : D) (mu' : Mu), fm__law_bent [.mug, .val (.tuple ds)] mu = .ok d mu' ∧ fine2 d = true ∧ Mg (n + 3) mu' := fun d e hfd => by
    refine ⟨d, mu3, body_rt ?_, hfd, h3⟩
    show sSeq _ _ [.mug, .val (.tuple ds), .no, .no, .no] mu = _
    rw [q_seq, hA, seq_nx, e]
  have v2 : eVar 2 [.mug, .val (.tuple ds), .val (.int r1), .val (.int (j : Int)), .val t] mu3 = .ok (.int r1) mu3 := rfl
  have v1 : eVar 1 [.mug, .val (.tuple ds), .val (.int r1), .val (.int (j : Int)), .val t] mu3 = .ok (.tuple ds) mu3 := rfl
  have fAll : ∀ {x y : List D}, x.all fine = true → y.all fine = true → (x ++ y).all fine = true := fun {x y} hx hy => by rw [List.all_append, hx, hy]; rfl
  have ft : [t].all fine = true := by simp [tf]
  by_cases k0 : r1 = 0
  · refine fin (.list ds) ?_ rfl
    subst k0
    simp [v2, v1, eq_int]
  by_cases k1 : r1 = 1
  · refine fin (.tuple (A ++ C)) ?_ (fAll f1 f3)
    subst k1
    simp [-q_cut, -q_tup, -f_addT, v2, eq_int, c1, c3, addT (x := A) (y := C) (by omega) (by omega)]
  by_cases k2 : r1 = 2
  · refine fin (.tuple (A ++ [t] ++ B)) ?_ (fAll (fAll f1 ft) f2)
    subst k2
    have z1 := addT (x := A) (y := [t]) (by omega) (by simp)
    have z2 := addT (x := A ++ [t]) (y := B) (by simp; omega) (by omega)
    generalize A ++ [t] = Q at z1 z2 ⊢
    simp [-q_cut, -q_tup, -f_addT, v2, eq_int, c1, c2, c4, z1, z2]
  by_cases k3 : r1 = 3
  · refine fin (.tuple (A ++ A ++ B)) ?_ (fAll (fAll f1 f1) f2)
    subst k3
    have z1 := addT (x := A) (y := A) (by omega) (by omega)
    have z2 := addT (x := A ++ A) (y := B) (by simp; omega) (by omega)
    generalize A ++ A = Q at z1 z2 ⊢
    simp [-q_cut, -q_tup, -f_addT, v2, eq_int, c1, c2, z1, z2]
  · refine fin (.tuple (A ++ [t] ++ C)) ?_ (fAll (fAll f1 ft) f3)
    have z1 := addT (x := A) (y := [t]) (by omega) (by simp)
    have z2 := addT (x := A ++ [t]) (y := C) (by simp; omega) (by omega)
    generalize A ++ [t] = Q at z1 z2 ⊢
    simp [-q_cut, -q_tup, -f_addT, v2, eq_int, c1, c3, c4, z1, z2, k0, k1, k2, k3]
end Wf.Law
/-! k73: odd things, told, the law. -/
namespace Wf.Law
open PySem L2 Wf

def odd1 : List D := [.none, .bool true, .bool false, .int 0, .int 1, .int (-1), .int 4, .int 7, .int (10 ^ 30), .str "", .str "east", .str "made", .tuple [], .tuple [.int 0], .tuple [.int 1, .int 0], .tuple [.int 0, .int 1], .tuple [.int 0, .int 0, .int 1], .tuple [.int 0, .int 0, .int 2]]
def odd2 : List D := [.tuple [.bool true, .int 0, .int 1], .tuple [.tuple [.int 0, .int 0, .int 1]], .list [], .list [.tuple [.int 0, .int 0, .int 1]], .dict [], .tuple [.tuple [.int 0, .int 0]], .tuple [.tuple [.int 1, .int 0, .int 1], .tuple [.int 0, .int 0, .int 1]], .tuple [.int 3, .int 2], .tuple [.int 1, .int 0, .int (-1)]]
theorem odd1_ok {g : Gm} {mu : Mu} : (eLst (aCons (eC .none) (aCons (eC (.bool true)) (aCons (eC (.bool false)) (aCons (eC (.int 0)) (aCons (eC (.int 1)) (aCons (eOp1 fNeg (eC (.int 1))) (aCons (eC (.int 4)) (aCons (eC (.int 7)) (aCons (eOp2 fPow (eC (.int 10)) (eC (.int 30))) (aCons (eC (.str "")) (aCons (eC (.str "east")) (aCons (eC (.str "made")) (aCons (eTup aNil) (aCons (eTup (aCons (eC (.int 0)) aNil)) (aCons (eTup (aCons (eC (.int 1)) (aCons (eC (.int 0)) aNil))) (aCons (eTup (aCons (eC (.int 0)) (aCons (eC (.int 1)) aNil))) (aCons (eTup (aCons (eC (.int 0)) (aCons (eC (.int 0)) (aCons (eC (.int 1)) aNil)))) (aCons (eTup (aCons (eC (.int 0)) (aCons (eC (.int 0)) (aCons (eC (.int 2)) aNil)))) aNil))))))))))))))))))) g mu = .ok (.list odd1) mu := by
  simp [le_line, pow30, odd1]
theorem odd2_ok {g : Gm} {mu : Mu} : (eLst (aCons (eTup (aCons (eC (.bool true)) (aCons (eC (.int 0)) (aCons (eC (.int 1)) aNil)))) (aCons (eTup (aCons (eTup (aCons (eC (.int 0)) (aCons (eC (.int 0)) (aCons (eC (.int 1)) aNil)))) aNil)) (aCons (eLst aNil) (aCons (eLst (aCons (eTup (aCons (eC (.int 0)) (aCons (eC (.int 0)) (aCons (eC (.int 1)) aNil)))) aNil)) (aCons (eC (.dict [])) (aCons (eTup (aCons (eTup (aCons (eC (.int 0)) (aCons (eC (.int 0)) aNil))) aNil)) (aCons (eTup (aCons (eTup (aCons (eC (.int 1)) (aCons (eC (.int 0)) (aCons (eC (.int 1)) aNil)))) (aCons (eTup (aCons (eC (.int 0)) (aCons (eC (.int 0)) (aCons (eC (.int 1)) aNil)))) aNil))) (aCons (eTup (aCons (eC (.int 3)) (aCons (eC (.int 2)) aNil))) (aCons (eTup (aCons (eC (.int 1)) (aCons (eC (.int 0)) (aCons (eOp1 fNeg (eC (.int 1))) aNil)))) aNil)))))))))) g mu = .ok (.list odd2) mu := by
  simp [le_line, odd2]
theorem odd_fine : (odd1 ++ odd2).all fine2 = true := by decide +kernel
theorem odd_ok {n : Nat} {mu : Mu} (hM : Mg n mu) (hn : n ≤ 800000000) : ∃ (d : D) (mu' : Mu), fm__law_odd [.mug] mu = .ok d mu' ∧ fine2 d = true ∧ Mg (n + 1) mu' := by
  have hlen : (odd1 ++ odd2).length = 27 := by decide +kernel
  obtain ⟨d, mu', e, hd, h⟩ := pick_ok (ds := odd1 ++ odd2) (.inl rfl) hM (by omega) (by omega) (by omega)
  refine ⟨d, mu', body_rt ?_, List.all_eq_true.mp odd_fine d hd, h⟩
  have hA : ∀ g : Gm, g = [.mug, .no] → sSet 1 (eLst (aCons (eC .none) (aCons (eC (.bool true)) (aCons (eC (.bool false)) (aCons (eC (.int 0)) (aCons (eC (.int 1)) (aCons (eOp1 fNeg (eC (.int 1))) (aCons (eC (.int 4)) (aCons (eC (.int 7)) (aCons (eOp2 fPow (eC (.int 10)) (eC (.int 30))) (aCons (eC (.str "")) (aCons (eC (.str "east")) (aCons (eC (.str "made")) (aCons (eTup aNil) (aCons (eTup (aCons (eC (.int 0)) aNil)) (aCons (eTup (aCons (eC (.int 1)) (aCons (eC (.int 0)) aNil))) (aCons (eTup (aCons (eC (.int 0)) (aCons (eC (.int 1)) aNil))) (aCons (eTup (aCons (eC (.int 0)) (aCons (eC (.int 0)) (aCons (eC (.int 1)) aNil)))) (aCons (eTup (aCons (eC (.int 0)) (aCons (eC (.int 0)) (aCons (eC (.int 2)) aNil)))) aNil))))))))))))))))))) g mu = .nx [.mug, .val (.list odd1)] mu := fun g hg => by
    subst hg
    rw [q_set, odd1_ok]
    rfl
  have hB : sSet 1 (eOp2 fAdd (eVar 1) (eLst (aCons (eTup (aCons (eC (.bool true)) (aCons (eC (.int 0)) (aCons (eC (.int 1)) aNil)))) (aCons (eTup (aCons (eTup (aCons (eC (.int 0)) (aCons (eC (.int 0)) (aCons (eC (.int 1)) aNil)))) aNil)) (aCons (eLst aNil) (aCons (eLst (aCons (eTup (aCons (eC (.int 0)) (aCons (eC (.int 0)) (aCons (eC (.int 1)) aNil)))) aNil)) (aCons (eC (.dict [])) (aCons (eTup (aCons (eTup (aCons (eC (.int 0)) (aCons (eC (.int 0)) aNil))) aNil)) (aCons (eTup (aCons (eTup (aCons (eC (.int 1)) (aCons (eC (.int 0)) (aCons (eC (.int 1)) aNil)))) (aCons (eTup (aCons (eC (.int 0)) (aCons (eC (.int 0)) (aCons (eC (.int 1)) aNil)))) aNil))) (aCons (eTup (aCons (eC (.int 3)) (aCons (eC (.int 2)) aNil))) (aCons (eTup (aCons (eC (.int 1)) (aCons (eC (.int 0)) (aCons (eOp1 fNeg (eC (.int 1))) aNil)))) aNil))))))))))) [.mug, .val (.list odd1)] mu = .nx [.mug, .val (.list (odd1 ++ odd2))] mu := by
    have ad : fAdd (.list odd1) (.list odd2) = some (.list (odd1 ++ odd2)) := by
      rw [f_addL, if_pos (le_line (by rw [← List.length_append, hlen]; decide))]
    rw [q_set, q_op2]
    show ((R.ok (PyData.list odd1) mu).bind _).toS _ _ = _
    rw [bind_ok, odd2_ok, bind_ok, ad]
    rfl
  show sSeq _ (sSeq _ _) [.mug, .no] mu = _
  rw [q_seq, hA _ rfl, seq_nx, q_seq, hB, seq_nx]
  generalize odd1 ++ odd2 = L at e
  simp [bMug, eVar, e]
end Wf.Law
/-! k73: told. -/
namespace Wf.Law
open PySem L2 Wf

theorem sum_bd {B : Int} (hB : 0 ≤ B) : ∀ ns : List Int, (∀ n ∈ ns, 0 ≤ n ∧ n ≤ B) → 0 ≤ ns.sum ∧ ns.sum ≤ ns.length * B
  | [], _ => by simp
  | n :: ns, h => by
    have h1 := h n List.mem_cons_self
    have h2 := sum_bd hB ns fun m hm => h m (List.mem_cons_of_mem _ hm)
    rw [List.sum_cons, List.length_cons]
    have e : (((ns.length + 1 : Nat)) : Int) * B = ns.length * B + B := by
      rw [Int.natCast_add, Int.add_mul]
      omega
    omega
theorem rates_bd {s : Sky} (h : SkyOk s) : ∀ n, ∀ v ∈ rates s n, 0 ≤ v ∧ v ≤ 4 ^ n
  | 0, v, hv => by
    unfold rates at hv
    rw [(List.mem_replicate.mp hv).2]
    exact ⟨by decide, by decide⟩
  | n + 1, v, hv => by
    have ih := rates_bd h n
    unfold rates step1 at hv
    obtain ⟨r, hr, rfl⟩ := List.mem_map.mp hv
    have hB : (0 : Int) ≤ 4 ^ n := Int.le_of_lt (Int.pow_pos (by decide))
    have z := sum_bd hB (r.map fun p => ((rates s n)[p.2.toNat]?).getD 0) fun x hx => by
      obtain ⟨p, hp, rfl⟩ := List.mem_map.mp hx
      obtain ⟨v, e, _⟩ := rates_get h (n := n) hr hp
      rw [e]
      exact ih v (List.mem_of_getElem? e)
    rw [List.length_map] at z
    have hf := (h.rows r hr).few
    have e : (r.length : Int) * 4 ^ n ≤ 4 * 4 ^ n := Int.mul_le_mul_of_nonneg_right (by omega) hB
    have e2 : (4 : Int) ^ (n + 1) = 4 ^ n * 4 := Int.pow_succ ..
    refine ⟨z.1, ?_⟩
    rw [e2]
    omega
theorem cnt_bd {s : Sky} (h : SkyOk s) (n : Nat) : 0 ≤ cnt s n ∧ cnt s n ≤ 4 ^ n := by
  have hl : 0 < (rates s n).length := by rw [rates_len]; exact h.pos
  unfold cnt
  rw [List.getElem?_eq_getElem hl]
  exact rates_bd h n _ (List.getElem_mem hl)
theorem pow_int {n m : Nat} (h : n ≤ m) : (4 : Int) ^ n ≤ 4 ^ m := by
  have z : ((4 ^ n : Nat) : Int) ≤ ((4 ^ m : Nat) : Int) := Int.ofNat_le.mpr (Nat.pow_le_pow_right (by decide) h)
  rw [Int.natCast_pow, Int.natCast_pow] at z
  exact z
theorem cnt_6 {s : Sky} (h : SkyOk s) {n : Nat} (hn : n ≤ 6) : 0 ≤ cnt s n ∧ cnt s n ≤ 4096 := by
  obtain ⟨h1, h2⟩ := cnt_bd h n
  have e : (4 : Int) ^ n ≤ 4 ^ 6 := pow_int hn
  have e2 : (4 : Int) ^ 6 = 4096 := by decide
  omega
theorem cnt_2 {s : Sky} (h : SkyOk s) {n : Nat} (hn : n ≤ 2) : cnt s n ≤ 16 := by
  obtain ⟨h1, h2⟩ := cnt_bd h n
  have e : (4 : Int) ^ n ≤ 4 ^ 2 := pow_int hn
  have e2 : (4 : Int) ^ 2 = 16 := by decide
  omega
theorem word_okD {w : List Int} (h : ∀ i ∈ w, 0 ≤ i ∧ i < 4) : okD (tupD w) = true := by
  unfold tupD
  simp only [okD]
  refine okA_mem fun d hd => ?_
  obtain ⟨i, hi, rfl⟩ := List.mem_map.mp hd
  have := h i hi
  simp only [okD, decide_eq_true_eq]
  omega
theorem word_bulk {w : List Int} : (tupD w).bulk ≤ w.length := by
  unfold tupD
  simp only [PyData.bulk]
  have z := bulkA_le (c := 0) (ds := w.map PyData.int) fun d hd => by
    obtain ⟨i, _, rfl⟩ := List.mem_map.mp hd
    simp [PyData.bulk]
  rw [List.length_map] at z
  omega
theorem word_dep {w : List Int} : (tupD w).depth ≤ 2 := by
  unfold tupD
  simp only [PyData.depth]
  have := dep_ints w
  omega
theorem mem_words {s : Sky} (h : SkyOk s) {n : Nat} {w : List Int} (hw : w ∈ wordsOf s n) : w.length = n ∧ ∀ i ∈ w, 0 ≤ i ∧ i < 4 := by
  unfold wordsOf at hw
  obtain ⟨x, hx, rfl⟩ := List.mem_map.mp ((srtB_perm _).mem_iff.mp hw)
  have ok := wrows_ok h n x hx
  exact ⟨ok.len, ok.winds⟩
theorem words_repr {s : Sky} (h : SkyOk s) {n : Nat} (hn : n ≤ 6) : fRepr [wordsD s n] = some (.str (wordsD s n).shown) ∧ PyData.strOk (wordsD s n).shown = true := by
  have hok : okD (wordsD s n) = true := by
    unfold wordsD
    simp only [okD]
    refine okA_mem fun d hd => ?_
    obtain ⟨w, hw, rfl⟩ := List.mem_map.mp hd
    exact word_okD (mem_words h hw).2
  have hlen : (wordsOf s n).length ≤ 4096 := by
    have e : (wordsOf s n).length = (wrows s n).length := by
      unfold wordsOf sortT
      rw [(srtB_perm _).length_eq, List.length_map]
    have h1 := wrows_len h n
    have h2 := pow_le hn
    omega
  refine ⟨repr_ok hok ?_ ?_, sok_shown _ hok⟩
  · unfold wordsD
    simp only [PyData.bulk]
    have z := bulkA_le (c := 6) (ds := (wordsOf s n).map tupD) fun d hd => by
      obtain ⟨w, hw, rfl⟩ := List.mem_map.mp hd
      have := (mem_words h hw).1
      exact Nat.le_trans word_bulk (by omega)
    rw [List.length_map] at z
    omega
  · unfold wordsD
    simp only [PyData.depth]
    have z := depA_le (c := 2) (ds := (wordsOf s n).map tupD) fun d hd => by
      obtain ⟨w, hw, rfl⟩ := List.mem_map.mp hd
      exact word_dep
    omega
theorem int_repr {i : Int} (h : i.natAbs < 10 ^ 12) : fRepr [.int i] = some (.str (PyData.int i).shown) ∧ PyData.strOk (PyData.int i).shown = true := by
  have hok : okD (.int i) = true := by simp only [okD]; exact decide_eq_true h
  exact ⟨repr_ok hok (by simp [PyData.bulk]) (by simp [PyData.depth]), sok_shown _ hok⟩
/-- what told, due say -/
def dueD (s : Sky) (n : Nat) : D := if 300 < cnt s n then .list [.str "too many", .str (PyData.int (cnt s n)).shown] else .list [.str "told", .str (wordsD s n).shown]
theorem told_ok {s : Sky} (h : SkyOk s) {n : Nat} (hn : 0 < n) (h6 : n ≤ 6) {mu : Mu} : fm__law_told [.val (skyD s), .val (.int (n : Int))] mu = .ok (dueD s n) mu := by
  have w := words_ok h hn h6 (mu := [])
  have c6 := cnt_6 h h6
  obtain ⟨r1, _⟩ := words_repr h h6
  obtain ⟨r2, _⟩ := int_repr (i := cnt s n) (by omega)
  refine body_rt ?_
  unfold dueD
  by_cases hc : 300 < cnt s n
  · rw [if_pos hc] at w ⊢
    generalize cnt s n = c at w r2
    have hb : (sRet (eLst (aCons (eC (.str "told")) (aCons (eCall fRepr (aCons (eFn fm_words (bCons (eVar 0) (bCons (eVar 1) bNil))) aNil)) aNil)))) [.val (skyD s), .val (.int (n : Int)), .no] mu = .exc "TooMany" (some ("given", .int c)) [.val (skyD s), .val (.int (n : Int)), .no] mu := by
      simp [eVar, w]
    have hl : ([("InvalidNumber", false), ("InvalidWeather", false), ("TooMany", true)] : List (PySem.Str × Bool)).lookup ("TooMany" : PySem.Str) = some true := by decide +kernel
    show sTryAs 2 _ _ _ [.val (skyD s), .val (.int (n : Int)), .no] mu = _
    unfold sTryAs
    rw [hb]
    dsimp only
    rw [hl]
    dsimp only
    have hs : (sRet (eLst (aCons (eC (.str "too many")) (aCons (eCall fRepr (aCons (eExn 2 "given" 0 none) aNil)) aNil)))) ([.val (skyD s), .val (.int (n : Int)), Sl.no].set 2 (.exn "TooMany" (some ("given", .int c)) 0 none)) mu = .rt (.list [.str "too many", .str (PyData.int c).shown]) mu := by
      simp [eExn, r2, le_line]
    rw [hs]
  · rw [if_neg hc] at w ⊢
    generalize wordsD s n = d at w r1
    have hb : (sRet (eLst (aCons (eC (.str "told")) (aCons (eCall fRepr (aCons (eFn fm_words (bCons (eVar 0) (bCons (eVar 1) bNil))) aNil)) aNil)))) [.val (skyD s), .val (.int (n : Int)), .no] mu = .rt (.list [.str "told", .str d.shown]) mu := by
      simp [eVar, w, r1, le_line]
    show sTryAs 2 _ _ _ [.val (skyD s), .val (.int (n : Int)), .no] mu = _
    unfold sTryAs
    rw [hb]
theorem due_ne {s : Sky} (h : SkyOk s) {n : Nat} (h6 : n ≤ 6) : fNe (dueD s n) (dueD s n) = some (.bool false) := by
  have c6 := cnt_6 h h6
  unfold dueD
  by_cases hc : 300 < cnt s n
  · rw [if_pos hc]
    exact ne_two (sok_lit _) (int_repr (i := cnt s n) (by omega)).2
  · rw [if_neg hc]
    exact ne_two (sok_lit _) (words_repr h h6).2
end Wf.Law
/-! k73: the law's one turn. -/
namespace Wf.Law
open PySem L2 Wf

theorem bol_okD (bs : List Bool) : okA (bs.map PyData.bool) = true := okA_mem fun d hd => by
  obtain ⟨b, _, rfl⟩ := List.mem_map.mp hd
  rfl
theorem bol_repr {bs : List Bool} (h : bs.length ≤ 1000) : fRepr [.list (bs.map PyData.bool)] = some (.str (PyData.list (bs.map PyData.bool)).shown) ∧ PyData.strOk (PyData.list (bs.map PyData.bool)).shown = true := by
  have hok : okD (.list (bs.map PyData.bool)) = true := by simp only [okD]; exact bol_okD bs
  refine ⟨repr_ok hok ?_ ?_, sok_shown _ hok⟩
  · simp only [PyData.bulk]
    have z := bulkA_le (c := 0) (ds := bs.map PyData.bool) fun d hd => by
      obtain ⟨b, _, rfl⟩ := List.mem_map.mp hd
      simp [PyData.bulk]
    rw [List.length_map] at z
    omega
  · simp only [PyData.depth]
    have z := depA_le (c := 0) (ds := bs.map PyData.bool) fun d hd => by
      obtain ⟨b, _, rfl⟩ := List.mem_map.mp hd
      simp [PyData.depth]
    omega
theorem sky_pick {m : Nat} {mu : Mu} (hM : Mg m mu) (hm : m ≤ 1000000) :
    ∃ (s : Sky) (n : Nat) (mu3 : Mu), (sAsg (eTup (aCons (eFnM fm__law_sky (bMug 0 (bCons (eFnM fm__law_pick (bMug 0 (bCons (eLst (aCons (eC (.int 2)) (aCons (eC (.int 4)) aNil))) bNil))) bNil))) (aCons (eOp2 fAdd (eC (.int 1)) (eFnM fm__law_dip (bMug 0 (bCons (eC (.int 6)) bNil)))) aNil))) (mTup 2 (mCons (mName 1) (mCons (mName 2) mNil)))) [.mug, .no, .no, .no, .no, .no, .no, .no, .no, .no] mu = .nx [.mug, .val (skyD s), .val (.int (n : Int)), .no, .no, .no, .no, .no, .no, .no] mu3 ∧ SkyOk s ∧ 0 < n ∧ n ≤ 6 ∧ Mg (m + 30) mu3 := by
  obtain ⟨d, mu1, e1, hd, h1⟩ := pick_ok (ds := [.int 2, .int 4]) (.inl rfl) hM (by omega) (by simp) (by simp)
  obtain ⟨most, rfl, hb⟩ : ∃ most : Int, d = .int most ∧ 1 ≤ most ∧ most ≤ 4 := by
    simp only [List.mem_cons, List.not_mem_nil, or_false] at hd
    rcases hd with rfl | rfl
    · exact ⟨2, rfl, by decide, by decide⟩
    · exact ⟨4, rfl, by decide, by decide⟩
  obtain ⟨s, mu2, e2, hs, h2⟩ := sky_ok hb h1 (by omega)
  obtain ⟨r, mu3, e3, r0, r1, h3⟩ := dip_ok (k := 6) h2 (by omega) (by decide) (by decide)
  have hr : (1 : Int) + r = ((r.toNat + 1 : Nat) : Int) := by omega
  refine ⟨s, r.toNat + 1, mu3, ?_, hs, by omega, by omega, h3.mono (by omega)⟩
  have ht : eTup (aCons (eFnM fm__law_sky (bMug 0 (bCons (eFnM fm__law_pick (bMug 0 (bCons (eLst (aCons (eC (.int 2)) (aCons (eC (.int 4)) aNil))) bNil))) bNil))) (aCons (eOp2 fAdd (eC (.int 1)) (eFnM fm__law_dip (bMug 0 (bCons (eC (.int 6)) bNil)))) aNil)) [.mug, .no, .no, .no, .no, .no, .no, .no, .no, .no] mu = .ok (.tuple [skyD s, .int ((r.toNat + 1 : Nat) : Int)]) mu3 := by
    rw [← hr]
    simp [bMug, e1, e2, e3, le_line]
  rw [q_asg, ht, toS_ok, two_set (s := .no) (t := .no) rfl (by simp) rfl (by simp) (by decide)]
  rfl
theorem right_ok {m : Nat} {mu : Mu} (hM : Mg m mu) (hm : m ≤ 1000000) : ∃ mu', fm__law_right [.mug] mu = .ok (.bool true) mu' := by
  obtain ⟨s, n, mu3, hS1, hs, hn, h6, h3⟩ := sky_pick hM hm
  have hS2 : (sSet 3 (eFn fm__law_count (bCons (eVar 1) (bCons (eVar 2) bNil)))) [.mug, .val (skyD s), .val (.int (n : Int)), .no, .no, .no, .no, .no, .no, .no] mu3 = .nx [.mug, .val (skyD s), .val (.int (n : Int)), .val (.int (cnt s n)), .no, .no, .no, .no, .no, .no] mu3 := by
    have z : fm__law_count [.val (skyD s), .val (.int (n : Int))] [] = .ok (.int (cnt s n)) [] := lcount_ok hs (n := n) (by omega)
    simp [eVar, z, setSl]
  have c6 := cnt_6 hs h6
  obtain ⟨rw1, rw2⟩ := words_repr hs h6
  obtain ⟨ri1, ri2⟩ := int_repr (i := cnt s n) (by omega)
  have hS3 : (sSet 4 (eIf (mT (eOp2 fGt (eVar 3) (eC (.int 300)))) (eLst (aCons (eC (.str "too many")) (aCons (eCall fRepr (aCons (eVar 3) aNil)) aNil))) (eLst (aCons (eC (.str "told")) (aCons (eCall fRepr (aCons (eFn fm__law_walks (bCons (eVar 1) (bCons (eVar 2) bNil))) aNil)) aNil))))) [.mug, .val (skyD s), .val (.int (n : Int)), .val (.int (cnt s n)), .no, .no, .no, .no, .no, .no] mu3 = .nx [.mug, .val (skyD s), .val (.int (n : Int)), .val (.int (cnt s n)), .val (dueD s n), .no, .no, .no, .no, .no] mu3 := by
    have z := walks_ok hs hn h6 (mu := [])
    unfold dueD
    by_cases hc : 300 < cnt s n
    · rw [if_pos hc]
      generalize cnt s n = c at hc ri1
      simp [eVar, hc, ri1, le_line, setSl]
    · rw [if_neg hc]
      generalize cnt s n = c at hc ri1
      generalize wordsD s n = d at z rw1
      simp [eVar, hc, z, rw1, le_line, setSl]
  have hS4 : (sIf (mOr (mT (eOp2 fNe (eFn fm__law_told (bCons (eVar 1) (bCons (eVar 2) bNil))) (eVar 4))) (mT (eOp2 fIsN (eFn fm_is_weather (bCons (eVar 1) bNil)) (eC (.bool true))))) (sRet (eC (.bool false))) sPass) [.mug, .val (skyD s), .val (.int (n : Int)), .val (.int (cnt s n)), .val (dueD s n), .no, .no, .no, .no, .no] mu3 = .nx [.mug, .val (skyD s), .val (.int (n : Int)), .val (.int (cnt s n)), .val (dueD s n), .no, .no, .no, .no, .no] mu3 := by
    have z := told_ok hs hn h6 (mu := [])
    have z2 := due_ne hs h6
    have z3 := weather_ok hs (mu := [])
    generalize dueD s n = d at z z2
    simp [eVar, z, z2, z3, fIsN]
  obtain ⟨r, mu4, e4, r0, r1, h4⟩ := dip_ok (k := 2) h3 (by omega) (by decide) (by decide)
  obtain ⟨k, hk, k0, k2⟩ : ∃ k : Nat, (1 : Int) + r = (k : Int) ∧ 0 < k ∧ k ≤ 2 := ⟨(r + 1).toNat, by omega, by omega, by omega⟩
  have hS5 : (sSet 5 (eOp2 fAdd (eC (.int 1)) (eFnM fm__law_dip (bMug 0 (bCons (eC (.int 2)) bNil))))) [.mug, .val (skyD s), .val (.int (n : Int)), .val (.int (cnt s n)), .val (dueD s n), .no, .no, .no, .no, .no] mu3 = .nx [.mug, .val (skyD s), .val (.int (n : Int)), .val (.int (cnt s n)), .val (dueD s n), .val (.int (k : Int)), .no, .no, .no, .no] mu4 := by
    rw [← hk]
    generalize dueD s n = d
    simp [bMug, e4, setSl]
  have hS6 : (sIf (mT (eOp2 fNe (eCall fRepr (aCons (eFn fm_words (bCons (eVar 1) (bCons (eVar 5) bNil))) aNil)) (eCall fRepr (aCons (eFn fm__law_walks (bCons (eVar 1) (bCons (eVar 5) bNil))) aNil)))) (sRet (eC (.bool false))) sPass) [.mug, .val (skyD s), .val (.int (n : Int)), .val (.int (cnt s n)), .val (dueD s n), .val (.int (k : Int)), .no, .no, .no, .no] mu4 = .nx [.mug, .val (skyD s), .val (.int (n : Int)), .val (.int (cnt s n)), .val (dueD s n), .val (.int (k : Int)), .no, .no, .no, .no] mu4 := by
    have z := words_ok hs k0 (by omega) (mu := [])
    have hc : ¬ 300 < cnt s k := by
      have := cnt_2 hs k2
      omega
    rw [if_neg hc] at z
    have z2 := walks_ok hs k0 (by omega) (mu := [])
    obtain ⟨q1, q2⟩ := words_repr hs (n := k) (by omega)
    have z3 := ne_str q2 q2
    generalize wordsD s k = d at z z2 q1 z3
    generalize dueD s n = d2
    simp [eVar, z, z2, q1, z3]
  obtain ⟨r5, mu5, e5, a0, a1, h5⟩ := dip_ok (k := 13) h4 (by omega) (by decide) (by decide)
  obtain ⟨k5, rfl⟩ : ∃ k5 : Nat, r5 = (k5 : Int) := ⟨r5.toNat, by omega⟩
  obtain ⟨w, mu6, e6, hw, hwb, h6'⟩ := walked_ok hs h5 (by omega) (m := k5) (by omega)
  have hS7 : (sSet 6 (eFnM fm__law_walked (bMug 0 (bCons (eVar 1) (bCons (eFnM fm__law_dip (bMug 0 (bCons (eC (.int 13)) bNil))) bNil))))) [.mug, .val (skyD s), .val (.int (n : Int)), .val (.int (cnt s n)), .val (dueD s n), .val (.int (k : Int)), .no, .no, .no, .no] mu4 = .nx [.mug, .val (skyD s), .val (.int (n : Int)), .val (.int (cnt s n)), .val (dueD s n), .val (.int (k : Int)), .val (tupD w), .no, .no, .no] mu6 := by
    generalize dueD s n = d2
    simp [eVar, bMug, e5, e6, setSl]
  have hwf : (w.map PyData.int).all fine = true := List.all_eq_true.mpr fun x hx => by
    obtain ⟨i, _, rfl⟩ := List.mem_map.mp hx
    rfl
  have hwl : (w.map PyData.int).length ≤ 1000 := by rw [List.length_map]; omega
  obtain ⟨d7, mu7, e7, f7, h7⟩ := bent_ok h6' (by omega) hwf hwl
  obtain ⟨d8, mu8, e8, f8, h8⟩ := bent_ok h7 (by omega) hwf hwl
  obtain ⟨d9, mu9, e9, f9, h9⟩ := bent_ok (ds := (w.map PyData.int).take 2) h8 (by omega) (all_take hwf 2) (by rw [List.length_take]; omega)
  obtain ⟨d10, mu10, e10, f10, h10⟩ := odd_ok h9 (by omega)
  generalize hL : [PyData.tuple [], tupD w, d7, d8, d9, d10] = L
  have hLf : ∀ d ∈ L, fine2 d = true := fun d hd => by
    subst hL
    simp only [List.mem_cons, List.not_mem_nil, or_false] at hd
    rcases hd with rfl | rfl | rfl | rfl | rfl | rfl
    · rfl
    · exact hwf
    · exact f7
    · exact f8
    · exact f9
    · exact f10
  have hLl : L.length = 6 := by subst hL; rfl
  have hS8 : (sSet 7 (eLst (aCons (eTup aNil) (aCons (eVar 6) (aCons (eFnM fm__law_bent (bMug 0 (bCons (eVar 6) bNil))) (aCons (eFnM fm__law_bent (bMug 0 (bCons (eVar 6) bNil))) (aCons (eFnM fm__law_bent (bMug 0 (bCons (eCut (eVar 6) oNo (oSo (eC (.int 2)))) bNil))) (aCons (eFnM fm__law_odd (bMug 0 bNil)) aNil)))))))) [.mug, .val (skyD s), .val (.int (n : Int)), .val (.int (cnt s n)), .val (dueD s n), .val (.int (k : Int)), .val (tupD w), .no, .no, .no] mu6 = .nx [.mug, .val (skyD s), .val (.int (n : Int)), .val (.int (cnt s n)), .val (dueD s n), .val (.int (k : Int)), .val (tupD w), .val (.list L), .no, .no] mu10 := by
    have e7' : fm__law_bent [.mug, .val (tupD w)] mu6 = .ok d7 mu7 := e7
    have e8' : fm__law_bent [.mug, .val (tupD w)] mu7 = .ok d8 mu8 := e8
    have hcut : fCut (tupD w) none (some 2) = some (.tuple ((w.map PyData.int).take 2)) := by
      show some (PyData.tuple (cutD (w.map PyData.int) none (some ((2 : Nat) : Int)))) = _
      rw [cut_take]
    have ho : oSo (eC (.int 2)) [.mug, .val (skyD s), .val (.int (n : Int)), .val (.int (cnt s n)), .val (dueD s n), .val (.int (k : Int)), .val (tupD w), .no, .no, .no] mu8 = .ok (some 2) mu8 := rfl
    generalize dueD s n = d2 at ho ⊢
    generalize (w.map PyData.int).take 2 = w2 at e9 hcut
    have hq : eLst (aCons (eTup aNil) (aCons (eVar 6) (aCons (eFnM fm__law_bent (bMug 0 (bCons (eVar 6) bNil))) (aCons (eFnM fm__law_bent (bMug 0 (bCons (eVar 6) bNil))) (aCons (eFnM fm__law_bent (bMug 0 (bCons (eCut (eVar 6) oNo (oSo (eC (.int 2)))) bNil))) (aCons (eFnM fm__law_odd (bMug 0 bNil)) aNil)))))) [.mug, .val (skyD s), .val (.int (n : Int)), .val (.int (cnt s n)), .val d2, .val (.int (k : Int)), .val (tupD w), .no, .no, .no] mu6 = .ok (.list L) mu10 := by
      rw [← hL]
      simp [eVar, bMug, e7', e8', ho, hcut, e9, e10, le_line]
    rw [q_set, hq]
    rfl
  have hcs : ∀ (fm : FM) (g : Gm) (mu : Mu), (∀ d, fine2 d = true → fm [.val (skyD s), .val d] [] = .ok (.bool (wordB s d)) []) → (∃ r, g = [.mug, .val (skyD s), .val (.int (n : Int)), .val (.int (cnt s n)), .val (dueD s n), .val (.int (k : Int)), .val (tupD w), .val (.list L), r, .no]) →
      eComp [9] (iSeq (eVar 7)) (mName 9) mYes (eFn fm (bCons (eVar 1) (bCons (eVar 9) bNil))) g mu = .ok (.list ((L.map (wordB s)).map PyData.bool)) mu := fun fm g mu hfm ⟨r, hg⟩ => by
    subst hg
    have hi : iSeq (eVar 7) [.mug, .val (skyD s), .val (.int (n : Int)), .val (.int (cnt s n)), .val (dueD s n), .val (.int (k : Int)), .val (tupD w), .val (.list L), r, .no] mu = .ok (L.map id) mu := by rw [List.map_id]; rfl
    have hmm := compS_map (gm := mName 9) (mt := mYes) (me := eFn fm (bCons (eVar 1) (bCons (eVar 9) bNil))) (enc := id) (f := fun d => PyData.bool (wordB s d)) (g := wipeG [.mug, .val (skyD s), .val (.int (n : Int)), .val (.int (cnt s n)), .val (dueD s n), .val (.int (k : Int)), .val (tupD w), .val (.list L), r, .no] [9]) (mu := mu) (xs := L) fun d hd => ⟨_, rfl, rfl, by
      have z := hfm d (hLf d hd)
      show eFn fm (bCons (eVar 1) (bCons (eVar 9) bNil)) [.mug, .val (skyD s), .val (.int (n : Int)), .val (.int (cnt s n)), .val (dueD s n), .val (.int (k : Int)), .val (tupD w), .val (.list L), r, .val d] mu = _
      generalize dueD s n = d2
      simp [eVar, z]⟩
    rw [q_comp, hi, bind_ok, hmm]
    show (if (L.map fun d => PyData.bool (wordB s d)).length ≤ lineN then R.ok (PyData.list (L.map fun d => PyData.bool (wordB s d))) mu else .bad) = _
    rw [if_pos (le_line (by rw [List.length_map]; omega)), List.map_map]
    rfl
  have hBl : (L.map (wordB s) ++ [true]).length = 7 := by rw [List.length_append, List.length_map, hLl]; rfl
  have had : fAdd (.list ((L.map (wordB s)).map PyData.bool)) (.list [.bool true]) = some (.list ((L.map (wordB s) ++ [true]).map PyData.bool)) := by
    rw [f_addL, if_pos (le_line (by rw [List.length_map, List.length_map, hLl]; decide)), List.map_append]
    rfl
  obtain ⟨br1, br2⟩ := bol_repr (bs := L.map (wordB s) ++ [true]) (by omega)
  generalize hBL : (L.map (wordB s) ++ [true]).map PyData.bool = BL at had br1 br2
  have hS9 : (sSet 8 (eOp2 fAdd (eComp [9] (iSeq (eVar 7)) (mName 9) mYes (eFn fm_is_word (bCons (eVar 1) (bCons (eVar 9) bNil)))) (eLst (aCons (eFn fm_is_word (bCons (eVar 1) (bCons (eVar 6) bNil))) aNil)))) [.mug, .val (skyD s), .val (.int (n : Int)), .val (.int (cnt s n)), .val (dueD s n), .val (.int (k : Int)), .val (tupD w), .val (.list L), .no, .no] mu10 = .nx [.mug, .val (skyD s), .val (.int (n : Int)), .val (.int (cnt s n)), .val (dueD s n), .val (.int (k : Int)), .val (tupD w), .val (.list L), .val (.list BL), .no] mu10 := by
    have z1 := hcs fm_is_word [.mug, .val (skyD s), .val (.int (n : Int)), .val (.int (cnt s n)), .val (dueD s n), .val (.int (k : Int)), .val (tupD w), .val (.list L), .no, .no] mu10 (fun d hd => isword_ok hs hd) ⟨_, rfl⟩
    have z2 : fm_is_word [.val (skyD s), .val (tupD w)] [] = .ok (.bool true) [] := by
      rw [isword_ok hs (d := tupD w) hwf, hwb]
    have z3 : eLst (aCons (eFn fm_is_word (bCons (eVar 1) (bCons (eVar 6) bNil))) aNil) [.mug, .val (skyD s), .val (.int (n : Int)), .val (.int (cnt s n)), .val (dueD s n), .val (.int (k : Int)), .val (tupD w), .val (.list L), .no, .no] mu10 = .ok (.list [.bool true]) mu10 := by
      generalize dueD s n = d2
      simp [eVar, z2, le_line]
    rw [q_set, q_op2, z1, bind_ok, z3, bind_ok, had]
    rfl
  have hS10 : (sRet (eOp2 fEq (eCall fRepr (aCons (eVar 8) aNil)) (eCall fRepr (aCons (eOp2 fAdd (eComp [9] (iSeq (eVar 7)) (mName 9) mYes (eFn fm__law_follows (bCons (eVar 1) (bCons (eVar 9) bNil)))) (eLst (aCons (eC (.bool true)) aNil))) aNil)))) [.mug, .val (skyD s), .val (.int (n : Int)), .val (.int (cnt s n)), .val (dueD s n), .val (.int (k : Int)), .val (tupD w), .val (.list L), .val (.list BL), .no] mu10 = .rt (.bool true) mu10 := by
    have z1 := hcs fm__law_follows [.mug, .val (skyD s), .val (.int (n : Int)), .val (.int (cnt s n)), .val (dueD s n), .val (.int (k : Int)), .val (tupD w), .val (.list L), .val (.list BL), .no] mu10 (fun d hd => follows_ok hs hd) ⟨_, rfl⟩
    have z3 : eLst (aCons (eC (.bool true)) aNil) [.mug, .val (skyD s), .val (.int (n : Int)), .val (.int (cnt s n)), .val (dueD s n), .val (.int (k : Int)), .val (tupD w), .val (.list L), .val (.list BL), .no] mu10 = .ok (.list [.bool true]) mu10 := by
      generalize dueD s n = d2
      simp [le_line]
    have q1 : eCall fRepr (aCons (eVar 8) aNil) [.mug, .val (skyD s), .val (.int (n : Int)), .val (.int (cnt s n)), .val (dueD s n), .val (.int (k : Int)), .val (tupD w), .val (.list L), .val (.list BL), .no] mu10 = .ok (.str (PyData.list BL).shown) mu10 := by
      generalize dueD s n = d2
      simp [eVar, br1]
    rw [q_ret, q_op2, q1, bind_ok, q_call, q_acons, q_op2, z1, bind_ok, z3, bind_ok, had]
    show (((R.ok [PyData.list BL] mu10).bind _).bind _).toS _ _ = _
    rw [bind_ok, br1, bind_ok, eq_str br2 br2]
    simp
  refine ⟨mu10, body_rt ?_⟩
  show sSeq _ (sSeq _ (sSeq _ (sSeq _ (sSeq _ (sSeq _ (sSeq _ (sSeq _ (sSeq _ _)))))))) [.mug, .no, .no, .no, .no, .no, .no, .no, .no, .no] mu = _
  rw [q_seq, hS1, seq_nx, q_seq, hS2, seq_nx, q_seq, hS3, seq_nx, q_seq, hS4, seq_nx, q_seq, hS5, seq_nx, q_seq, hS6, seq_nx, q_seq, hS7, seq_nx, q_seq, hS8, seq_nx, q_seq, hS9, seq_nx, hS10]
end Wf.Law
/-! k73: the drawn list, the law. -/
namespace Wf.Law
open PySem L2 Wf

abbrev scrD (ns : List Int) : D := .dict [(.none, .list (ns.map PyData.int))]
theorem scr_len {ns : List Int} : fLen [scrD ns] = some (.int ns.length) := by
  rw [f_lenS, List.length_map]
theorem scr_cut {ns : List Int} {j : Nat} : fCut (scrD ns) none (some (j : Int)) = some (.list ((ns.take j).map PyData.int)) := by
  rw [f_cutS, cut_take, List.map_take]
theorem mfm {a b : Int} (h : 0 < b) : fMod (.int a) (.int b) = some (.int (a % b)) := by
  rw [f_mod (by omega), Int.fmod_eq_emod_of_nonneg _ (by omega)]
theorem mug1 {ns : List Int} {lap : Nat} (hl : lap ≤ 1000) {mu : Mu} : ∃ c : Int, (sSet 2 (eIf (mT (eOp2 fLt (eVar 1) (eCall fLen (aCons (eVar 0) aNil)))) (eCall fInt (aCons (eOp2 fIx (eVar 0) (eVar 1)) aNil)) (eOp2 fAdd (eOp2 fAdd (eOp2 fMul (eC (.int 6151)) (eVar 1)) (eC (.int 47))) (eOp2 fMod (eCall fInt (aCons (eCall fSum (aCons (eCut (eVar 0) oNo (oSo (eC (.int 4)))) aNil)) aNil)) (eC (.int 1000003)))))) [.val (scrD ns), .val (.int (lap : Nat)), .no, .no, .no] mu = .nx [.val (scrD ns), .val (.int (lap : Nat)), .val (.int c), .no, .no] mu := by
  by_cases h : lap < ns.length
  · have e : fIx (scrD ns) (.int (lap : Nat)) = some (.int ns[lap]) := by
      refine atI_nn ?_
      rw [List.getElem?_map, List.getElem?_eq_getElem h]
      rfl
    refine ⟨ns[lap], ?_⟩
    have h2 : (lap : Int) < (ns.length : Int) := by omega
    have sl := scr_len (ns := ns)
    generalize scrD ns = d at e sl
    simp [eVar, sl, h2, e, setSl]
  · have h2 : ¬ (lap : Int) < (ns.length : Int) := by omega
    have e1 : fMul (.int 6151) (.int (lap : Nat)) = some (.int (6151 * lap)) := f_mul (by decide) (nat_small (by omega) (by omega))
    have e2 := sum_ints (ns.take 4)
    have e3 : fMod (.int (ns.take 4).sum) (.int 1000003) = some (.int ((ns.take 4).sum % 1000003)) := mfm (by decide)
    have e4 : eCut (eVar 0) oNo (oSo (eC (.int 4))) [.val (scrD ns), .val (.int (lap : Nat)), .no, .no, .no] mu = .ok (.list ((ns.take 4).map PyData.int)) mu := by
      have z := scr_cut (ns := ns) (j := 4)
      show (match fCut (scrD ns) none (some (((4 : Nat)) : Int)) with | some z => R.ok z mu | none => .bad) = _
      rw [z]
    refine ⟨6151 * lap + 47 + (ns.take 4).sum % 1000003, ?_⟩
    have sl := scr_len (ns := ns)
    generalize (ns.take 4).map PyData.int = L at e2 e4
    generalize scrD ns = d at e4 sl ⊢
    simp [-q_cut, eVar, sl, h2, e1, e2, e3, e4, setSl]
theorem mug3 {ns : List Int} {lap : Nat} {c : Int} {mu : Mu} {b : Int} (hb : 0 ≤ b ∧ b < 2147483543) : ∃ (b' : Int) (t : Sl), (0 ≤ b' ∧ b' < 2147483543) ∧ (sFor (iSeq (eOp2 fAdd (eCut (eVar 0) oNo (oSo (eC (.int 9)))) (eLst (aCons (eVar 2) aNil)))) (mName 4) (sSet 3 (eOp2 fMod (eCall fInt (aCons (eOp2 fAdd (eOp2 fAdd (eOp2 fMul (eVar 3) (eC (.int 50021))) (eOp2 fMod (eCall fInt (aCons (eVar 4) aNil)) (eC (.int 2147483543)))) (eC (.int 13))) aNil)) (eC (.int 2147483543))))) [.val (scrD ns), .val (.int (lap : Nat)), .val (.int c), .val (.int b), .no] mu = .nx [.val (scrD ns), .val (.int (lap : Nat)), .val (.int c), .val (.int b'), t] mu := by
  have hB := forS_inv (gm := mName 4) (enc := PyData.int) (body := (sSet 3 (eOp2 fMod (eCall fInt (aCons (eOp2 fAdd (eOp2 fAdd (eOp2 fMul (eVar 3) (eC (.int 50021))) (eOp2 fMod (eCall fInt (aCons (eVar 4) aNil)) (eC (.int 2147483543)))) (eC (.int 13))) aNil)) (eC (.int 2147483543)))))
    (fun i g mu' => mu' = mu ∧ ∃ (b' : Int) (t : Sl), g = [.val (scrD ns), .val (.int (lap : Nat)), .val (.int c), .val (.int b'), t] ∧ t ≠ .mug ∧ 0 ≤ b' ∧ b' < 2147483543) (ns.take 9 ++ [c]) 0 [.val (scrD ns), .val (.int (lap : Nat)), .val (.int c), .val (.int b), .no] mu ⟨rfl, b, .no, rfl, by simp, hb⟩ ?_
  · obtain ⟨g', mu', e, rfl, b', t, rfl, _, hb'⟩ := hB
    refine ⟨b', t, hb', ?_⟩
    have hi : (iSeq (eOp2 fAdd (eCut (eVar 0) oNo (oSo (eC (.int 9)))) (eLst (aCons (eVar 2) aNil)))) [.val (scrD ns), .val (.int (lap : Nat)), .val (.int c), .val (.int b), .no] mu' = .ok ((ns.take 9 ++ [c]).map PyData.int) mu' := by
      have z := scr_cut (ns := ns) (j := 9)
      have e4 : eCut (eVar 0) oNo (oSo (eC (.int 9))) [.val (scrD ns), .val (.int (lap : Nat)), .val (.int c), .val (.int b), .no] mu' = .ok (.list ((ns.take 9).map PyData.int)) mu' := by
        show (match fCut (scrD ns) none (some (((9 : Nat)) : Int)) with | some z => R.ok z mu' | none => .bad) = _
        rw [z]
      have hl : (ns.take 9).length ≤ 9 := by rw [List.length_take]; omega
      have ad : fAdd (.list ((ns.take 9).map PyData.int)) (.list [.int c]) = some (.list ((ns.take 9 ++ [c]).map PyData.int)) := by
        rw [f_addL, if_pos (le_line (by rw [List.length_map]; simp; omega)), List.map_append]
        rfl
      have e5 : eLst (aCons (eVar 2) aNil) [.val (scrD ns), .val (.int (lap : Nat)), .val (.int c), .val (.int b), .no] mu' = .ok (.list [.int c]) mu' := by
        generalize scrD ns = d
        simp [eVar, le_line]
      rw [q_iseq, q_op2, e4, bind_ok, e5, bind_ok, ad]
      rfl
    rw [q_for, hi, toS_ok, e]
  · rintro i x g mu' hx ⟨rfl, b', t, rfl, nt, hb0, hb1⟩
    generalize hy : x % 2147483543 = y
    have e1 : fMul (.int b') (.int 50021) = some (.int (b' * 50021)) := f_mul (nat_small (by omega) (by omega)) (by decide)
    have e2 : fMod (.int x) (.int 2147483543) = some (.int y) := by rw [← hy]; exact mfm (by decide)
    have e3 : fMod (.int (b' * 50021 + y + 13)) (.int 2147483543) = some (.int ((b' * 50021 + y + 13) % 2147483543)) := mfm (by decide)
    refine ⟨[.val (scrD ns), .val (.int (lap : Nat)), .val (.int c), .val (.int b'), .val (.int x)], mu', [.val (scrD ns), .val (.int (lap : Nat)), .val (.int c), .val (.int ((b' * 50021 + y + 13) % 2147483543)), .val (.int x)], mu', by rw [q_tname, setSl_at (t := t) rfl nt]; rfl, ?_, rfl, _, _, rfl, by simp, Int.emod_nonneg _ (by decide), Int.emod_lt_of_pos _ (by decide)⟩
    generalize scrD ns = d
    simp [eVar, e1, e2, e3, setSl]
theorem pow18 : fPow (.int 10) (.int 18) = some (.int (10 ^ 18)) := f_pow (by decide) (by decide) (by decide)
theorem mug_ok {ns : List Int} {lap : Nat} (hl : lap ≤ 1000) {mu : Mu} : ∃ mu0, fm__law_mug [.val (scrD ns), .val (.int (lap : Nat))] mu = .ok (.list mu0) mu ∧ Mg 0 mu0 ∧ lfA mu0 = true := by
  obtain ⟨c, h1⟩ := mug1 (ns := ns) hl (mu := mu)
  have hb : (0 : Int) ≤ 30011 + 613 * lap ∧ (30011 : Int) + 613 * lap < 2147483543 := by omega
  obtain ⟨b, t, hb', h3⟩ := mug3 (ns := ns) (lap := lap) (c := c) (mu := mu) hb
  have h2 : (sSet 3 (eOp2 fAdd (eC (.int 30011)) (eOp2 fMul (eC (.int 613)) (eVar 1)))) [.val (scrD ns), .val (.int (lap : Nat)), .val (.int c), .no, .no] mu = .nx [.val (scrD ns), .val (.int (lap : Nat)), .val (.int c), .val (.int (30011 + 613 * lap)), .no] mu := by
    have e1 : fMul (.int 613) (.int (lap : Nat)) = some (.int (613 * lap)) := f_mul (by decide) (nat_small (by omega) (by omega))
    generalize scrD ns = d
    simp [eVar, e1, setSl]
  have h4 : ∃ a : Int, 0 ≤ a ∧ (sRet (eLst (aCons (eIf (mOr (mT (eOp2 fLt (eVar 2) (eC (.int 0)))) (mT (eOp2 fGe (eVar 2) (eOp2 fPow (eC (.int 10)) (eC (.int 18)))))) (eCall fAbs (aCons (eVar 2) aNil)) (eC (.int 0))) (aCons (eVar 3) (aCons (eC (.int 0)) aNil))))) [.val (scrD ns), .val (.int (lap : Nat)), .val (.int c), .val (.int b), t] mu = .rt (.list [.int a, .int b, .int 0]) mu := by
    by_cases k : c < 0
    · refine ⟨-c, by omega, ?_⟩
      generalize scrD ns = d
      simp [eVar, k, le_line]
    · by_cases k2 : (10 ^ 18 : Int) ≤ c
      · refine ⟨c, by omega, ?_⟩
        generalize scrD ns = d
        have k4 : (1000000000000000000 : Int) ≤ c := by omega
        simp only [q_ret, q_lst, q_acons, q_if, q_mOr, q_mT, q_op2, q_call, q_anil, q_c, bind_ok, pow18, f_lt, f_ge]
        simp [eVar, k, k4, le_line]
      · refine ⟨0, by omega, ?_⟩
        generalize scrD ns = d
        have k4 : ¬ (1000000000000000000 : Int) ≤ c := by omega
        simp only [q_ret, q_lst, q_acons, q_if, q_mOr, q_mT, q_op2, q_call, q_anil, q_c, bind_ok, pow18, f_lt, f_ge]
        simp [eVar, k, k4, le_line]
  obtain ⟨a, ha, h4⟩ := h4
  refine ⟨[.int a, .int b, .int 0], body_rt ?_, ⟨a, b, 0, rfl, ha, hb'.1, hb'.2, by omega, by omega⟩, rfl⟩
  show sSeq _ (sSeq _ (sSeq _ _)) [.val (scrD ns), .val (.int (lap : Nat)), .no, .no, .no] mu = _
  rw [q_seq, h1, seq_nx, q_seq, h2, seq_nx, q_seq, h3, seq_nx, h4]
theorem lfA_ints : ∀ ns : List Int, lfA (ns.map PyData.int) = true
  | [] => rfl
  | n :: ns => by
    rw [List.map_cons]
    unfold lfA
    rw [lfA_ints ns]
    rfl
theorem law_ok (ns : List Int) (hn : ns.length ≤ 63) : ∃ mu, fm_law [.val (scrD ns)] [] = .ok (.bool true) mu := by
  obtain ⟨k, hk, k3⟩ : ∃ k : Nat, (if (if (3 : Int) < (ns.length : Int) then (3 : Int) else (ns.length : Int)) > 1 then (if (3 : Int) < (ns.length : Int) then (3 : Int) else (ns.length : Int)) else 1) = (k : Int) ∧ k ≤ 3 := by
    refine ⟨(if (if (3 : Int) < (ns.length : Int) then (3 : Int) else (ns.length : Int)) > 1 then (if (3 : Int) < (ns.length : Int) then (3 : Int) else (ns.length : Int)) else 1).toNat, ?_, ?_⟩ <;> (repeat' split) <;> omega
  have sl := scr_len (ns := ns)
  have hr : iRange1 (aCons (eCall fMax (aCons (eC (.int 1)) (aCons (eCall fMin (aCons (eCall fLen (aCons (eVar 0) aNil)) (aCons (eC (.int 3)) aNil))) aNil))) aNil) [.val (scrD ns), .no] [] = .ok ((List.range k).map fun (i : Nat) => PyData.int (i : Int)) [] := by
    refine iRange1_ok ?_ (by omega)
    rw [← hk]
    generalize scrD ns = d at sl
    simp only [q_acons, q_call, q_c, bind_ok, q_anil, eVar, List.getElem?_cons_zero, sl, f_min2, f_max2]
  have hc : eComp [1] (iRange1 (aCons (eCall fMax (aCons (eC (.int 1)) (aCons (eCall fMin (aCons (eCall fLen (aCons (eVar 0) aNil)) (aCons (eC (.int 3)) aNil))) aNil))) aNil)) (mName 1) mYes (eFnNew fm__law_right fm__law_mug (bCons (eVar 0) (bCons (eVar 1) bNil))) [.val (scrD ns), .no] [] = .ok (.list (List.replicate k (PyData.bool true))) [] := by
    have hm := compS_map (gm := mName 1) (mt := mYes) (me := eFnNew fm__law_right fm__law_mug (bCons (eVar 0) (bCons (eVar 1) bNil))) (enc := fun (i : Nat) => PyData.int (i : Int)) (f := fun _ => PyData.bool true) (g := wipeG [.val (scrD ns), .no] [1]) (mu := []) (xs := List.range k) fun i hi => ⟨_, rfl, rfl, by
      have hik : i < k := List.mem_range.mp hi
      obtain ⟨mu0, e1, hM, hlf⟩ := mug_ok (ns := ns) (lap := i) (by omega) (mu := [])
      obtain ⟨mu', e2⟩ := right_ok hM (by omega)
      show eFnNew fm__law_right fm__law_mug (bCons (eVar 0) (bCons (eVar 1) bNil)) [.val (scrD ns), .val (.int (i : Int))] [] = _
      have hB : bCons (eVar 0) (bCons (eVar 1) bNil) [.val (scrD ns), .val (.int (i : Int))] [] = .ok [.val (scrD ns), .val (.int (i : Int))] [] := rfl
      have hall : [Sl.val (scrD ns), .val (.int (i : Int))].all scrOrLf = true := by
        have z := lfA_ints ns
        show (lfA (ns.map PyData.int) && (lf (.int (i : Int)) && true)) = true
        rw [z]
        rfl
      unfold eFnNew
      rw [hB, bind_ok, if_pos hall, e1]
      dsimp only
      rw [if_pos hlf, e2]⟩
    rw [q_comp, hr, bind_ok, hm]
    show (if ((List.range k).map fun _ => PyData.bool true).length ≤ lineN then R.ok (PyData.list ((List.range k).map fun _ => PyData.bool true)) [] else .bad) = _
    rw [if_pos (le_line (by rw [List.length_map, List.length_range]; omega)), List.map_const', List.length_range]
  refine ⟨[], body_rt ?_⟩
  show sRet _ [.val (scrD ns), .no] [] = _
  rw [q_ret, q_call, q_acons, hc, bind_ok, q_anil, bind_ok, bind_ok, all_true]
  rfl
end Wf.Law
open PySem PySem.W PySem.Calls PyProof.Rows
theorem PySem.Challenge.cw_windfigure_k73_whole_words_of_weathers_holds : PySem.Challenge.rw_windfigure_k73_whole_words_of_weathers.Holds := by
  w_on; o_law
  refine HandSHeadRun.head_any (r := Wf.Law.R0) (q := view Wf.Law.R0.prog [35]) (H := Wf.Law.hk) (ob := Wf.Law.ob) (M := 3000) (loose := Wf.Law.loose) (d := HandSHeadRun.topDef Wf.Law.R0.prog 35) (kwd := []) Wf.Law.ob_eq
    (by kernel_rfl) (fun s => by kernel_rfl) Wf.Law.run (by kernel_rfl) (by kernel_rfl) (by kernel_rfl) (by rfl) (by first | assumption | decide +kernel) (by decide +kernel) ⟨rfl, rfl, rfl, rfl, rfl, by decide +kernel⟩ ?hw ?hc
  case hw => w_witness2
  case hc =>
    refine Wf.walkW (l := PySem.Challenge.rw_windfigure_k73_whole_words_of_weathers) (n := 63) (k := 9) (kw := false) (x := "_law_script") (fm := Wf.Law.fm_law) rfl (by decide) (by kernel_rfl) ⟨rfl, by decide, by decide⟩ Wf.callerA_guards ?F (fun ns h => Wf.Law.law_ok ns h)
    intro w mg fa h Y G hmg
    obtain ⟨K, KX, c⟩ := Y
    exact ⟨K, KX, fun base h1 h2 => Wf.Law.ok_law (P := _) (w := w) ⟨c, h, KX, G⟩⟩
