import PyProof.Rows.All
import Wide.All
import OpenK.AllK
import Wide.FinOn
import HandS.ForMost
import HandS.ForExc
import HandS.Evl
import HandS.Walk
import HandS.SetKeys
import HandS.StrMore
import HandS.StrSplit
import HandS.FStr
import HandS.TupAny
import HandS.TupMul
import HandS.Style
import HandS.Flow
import HandS.IsInst
import HandS.Property
import HandS.Gcd
import HandS.Wide
import HandS.NoneIn
import HandS.CallSlots
import HandS.ExcInit
import HandS.ExcIs
import HandS.ExcField
import HandS.Conv
import HandS.Zip
import HandS.Deep
import HandS.Star
import HandS.Defaults
import KE.DataEq
import KE.GoesEnumKw
import HandS.Replace
import HandS.ReplaceLit
import HandS.EndBits
import PySem.Challenge.RW_stampsheets_k82_stock_and_box_notes
set_option Elab.async false
set_option linter.all false
set_option maxRecDepth 100000
set_option maxHeartbeats 4000000
/-! The data layer, 1: data, what represents them, expressions over them. -/
namespace DL
open PySem PySem.Spec PyProof.Rows L2
open Evl (Ex ex_l ex_t fresh_back)
set_option autoImplicit false

/-- the data that a program works on -/
inductive D where
  | non | bl (b : Bool) | int (i : Int) | str (x : Str)
  | lst (xs : List D) | tup (xs : List D)
  | ins (c : Addr) (fs : List (Str × D))
  | dic (kvs : List (Key × D))
  | sq (ns : List Int)
  | exn (a : Addr) (dd : Option Addr) (fs : List (Str × D))

/-! ### representation -/
mutual
inductive R (K : PySem.W.Frag) (H : Hp) : V → D → Prop
  | non : R K H .non .non
  | bl (b : Bool) : R K H (.bl b) (.bl b)
  | int (i : Int) : R K H (.int i) (.int i)
  | str (x : Str) : R K H (.str x) (.str x)
  | lst {a : Addr} {xs : List V} {ds : List D} : H a = some (.lst xs) → RA K H xs ds → R K H (.ref a) (.lst ds)
  | tup {a : Addr} {xs : List V} {ds : List D} : SqT K H a xs → RA K H xs ds → R K H (.ref a) (.tup ds)
  | ins {a C dx : Addr} {fs : List (Str × V)} {gs : List (Str × D)} : H a = some (.ins C dx fs) → RF K H fs gs → R K H (.ref a) (.ins C gs)
  | dic {a : Addr} {fs : List (Key × V)} {gs : List (Key × D)} : H a = some (.dK fs) → RK K H fs gs → R K H (.ref a) (.dic gs)
  | sq {a : Addr} {ns : List Int} : SqL K H a (ns.map V.int) → R K H (.ref a) (.sq ns)
  | exn0 (a : Addr) : R K H (.ref a) (.exn a none [])
  | exn1 {a d : Addr} {fs : List (Str × V)} {gs : List (Str × D)} : H d = some (.xd fs) → RF K H fs gs → R K H (.ref a) (.exn a (some d) gs)
inductive RA (K : PySem.W.Frag) (H : Hp) : List V → List D → Prop
  | nil : RA K H [] []
  | cons {v : V} {vs : List V} {d : D} {ds : List D} : R K H v d → RA K H vs ds → RA K H (v :: vs) (d :: ds)
inductive RF (K : PySem.W.Frag) (H : Hp) : List (Str × V) → List (Str × D) → Prop
  | nil : RF K H [] []
  | cons {f : Str} {v : V} {vs : List (Str × V)} {d : D} {ds : List (Str × D)} : R K H v d → RF K H vs ds → RF K H ((f, v) :: vs) ((f, d) :: ds)
inductive RK (K : PySem.W.Frag) (H : Hp) : List (Key × V) → List (Key × D) → Prop
  | nil : RK K H [] []
  | cons {f : Key} {v : V} {vs : List (Key × V)} {d : D} {ds : List (Key × D)} : R K H v d → RK K H vs ds → RK K H ((f, v) :: vs) ((f, d) :: ds)
end

section
variable {K : PySem.W.Frag} {H H' : Hp}
mutual
theorem R.mono (e : Ex H H') : ∀ {v : V} {d : D}, R K H v d → R K H' v d
  | _, _, .non => .non
  | _, _, .bl b => .bl b
  | _, _, .int i => .int i
  | _, _, .str x => .str x
  | _, _, .lst h r => .lst (e _ _ h) (RA.mono e r)
  | _, _, .tup h r => .tup (ex_t e h) (RA.mono e r)
  | _, _, .ins h r => .ins (e _ _ h) (RF.mono e r)
  | _, _, .dic h r => .dic (e _ _ h) (RK.mono e r)
  | _, _, .sq h => .sq (ex_l e h)
  | _, _, .exn0 a => .exn0 a
  | _, _, .exn1 h r => .exn1 (e _ _ h) (RF.mono e r)
theorem RA.mono (e : Ex H H') : ∀ {vs : List V} {ds : List D}, RA K H vs ds → RA K H' vs ds
  | _, _, .nil => .nil
  | _, _, .cons r rs => .cons (R.mono e r) (RA.mono e rs)
theorem RF.mono (e : Ex H H') : ∀ {vs : List (Str × V)} {ds : List (Str × D)}, RF K H vs ds → RF K H' vs ds
  | _, _, .nil => .nil
  | _, _, .cons r rs => .cons (R.mono e r) (RF.mono e rs)
theorem RK.mono (e : Ex H H') : ∀ {vs : List (Key × V)} {ds : List (Key × D)}, RK K H vs ds → RK K H' vs ds
  | _, _, .nil => .nil
  | _, _, .cons r rs => .cons (R.mono e r) (RK.mono e rs)
end
theorem RA.length : ∀ {vs : List V} {ds : List D}, RA K H vs ds → vs.length = ds.length
  | _, _, .nil => rfl
  | _, _, .cons _ rs => congrArg (· + 1) (RA.length rs)
theorem RA.get : ∀ {vs : List V} {ds : List D} {i : Nat} {d : D}, RA K H vs ds → ds[i]? = some d → ∃ v, vs[i]? = some v ∧ R K H v d
  | _, _, _, _, .nil, e => by simp at e
  | _, _, 0, _, .cons r _, e => by
    simp at e
    subst e
    exact ⟨_, rfl, r⟩
  | _, _, i + 1, d, .cons _ t, e => by
    obtain ⟨v, h1, h2⟩ := RA.get (i := i) (d := d) t (by simpa using e)
    exact ⟨v, by simpa using h1, h2⟩
theorem RA.getV : ∀ {vs : List V} {ds : List D} {i : Nat} {v : V}, RA K H vs ds → vs[i]? = some v → ∃ d, ds[i]? = some d ∧ R K H v d
  | _, _, _, _, .nil, e => by simp at e
  | _, _, 0, _, .cons r _, e => by
    simp at e
    subst e
    exact ⟨_, rfl, r⟩
  | _, _, i + 1, d, .cons _ t, e => by
    obtain ⟨v, h1, h2⟩ := RA.getV (i := i) (v := d) t (by simpa using e)
    exact ⟨v, by simpa using h1, h2⟩
theorem RA.append : ∀ {vs ws : List V} {ds es : List D}, RA K H vs ds → RA K H ws es → RA K H (vs ++ ws) (ds ++ es)
  | _, _, _, _, .nil, s => s
  | _, _, _, _, .cons r t, s => .cons r (RA.append t s)
theorem RA.take : ∀ {vs : List V} {ds : List D} (n : Nat), RA K H vs ds → RA K H (vs.take n) (ds.take n)
  | _, _, 0, _ => .nil
  | _, _, _ + 1, .nil => .nil
  | _, _, n + 1, .cons r t => .cons r (RA.take n t)
theorem RA.drop : ∀ {vs : List V} {ds : List D} (n : Nat), RA K H vs ds → RA K H (vs.drop n) (ds.drop n)
  | _, _, 0, r => r
  | _, _, _ + 1, .nil => .nil
  | _, _, n + 1, .cons _ t => RA.drop n t
theorem RA.set {v : V} {d : D} (r : R K H v d) : ∀ {vs : List V} {ds : List D} (i : Nat), RA K H vs ds → RA K H (vs.set i v) (ds.set i d)
  | _, _, _, .nil => .nil
  | _, _, 0, .cons _ t => .cons r t
  | _, _, i + 1, .cons q t => .cons q (RA.set r i t)
theorem RA.one {v : V} {d : D} (r : R K H v d) : RA K H [v] [d] := .cons r .nil
theorem RA.rev : ∀ {vs : List V} {ds : List D}, RA K H vs ds → RA K H vs.reverse ds.reverse
  | _, _, .nil => .nil
  | _, _, .cons r t => by
    rw [List.reverse_cons, List.reverse_cons]
    exact (RA.rev t).append (.one r)
theorem RF.look : ∀ {fs : List (Str × V)} {gs : List (Str × D)} {f : Str} {d : D}, RF K H fs gs → gs.lookup f = some d → ∃ v, fs.lookup f = some v ∧ R K H v d
  | _, _, _, _, .nil, e => by simp at e
  | _, _, f, d, .cons (f := g) (v := v) (ds := gs) r t, e => by
    by_cases h : f = g
    · subst h
      rw [List.lookup_cons_self] at e
      cases e
      exact ⟨v, List.lookup_cons_self, r⟩
    · have hb : (f == g) = false := by simpa using h
      have e2 : List.lookup f gs = some d := by
        rw [List.lookup_cons, hb] at e
        exact e
      obtain ⟨w, h1, h2⟩ := RF.look t e2
      exact ⟨w, by rw [List.lookup_cons, hb]; exact h1, h2⟩
theorem RF.noLook : ∀ {fs : List (Str × V)} {gs : List (Str × D)} {f : Str}, RF K H fs gs → gs.lookup f = none → fs.lookup f = none
  | _, _, _, .nil, _ => rfl
  | _, _, f, .cons (f := g) (v := v) r t, e => by
    by_cases h : f = g
    · subst h
      rw [List.lookup_cons_self] at e
      cases e
    · have hb : (f == g) = false := by simpa using h
      rw [List.lookup_cons, hb] at e ⊢
      exact RF.noLook t e
theorem RF.length : ∀ {vs : List (Str × V)} {ds : List (Str × D)}, RF K H vs ds → vs.length = ds.length
  | _, _, .nil => rfl
  | _, _, .cons _ rs => congrArg (· + 1) (RF.length rs)
theorem RA.ints : ∀ {vs : List V} {ns : List Int}, RA K H vs (ns.map D.int) → vs = ns.map V.int
  | [], [], _ => rfl
  | _ :: _, _ :: _, .cons r rs => by
    cases r
    rw [RA.ints rs]
    rfl
theorem RA.strs : ∀ {vs : List V} {ns : List Str}, RA K H vs (ns.map D.str) → vs = ns.map V.str
  | [], [], _ => rfl
  | _ :: _, _ :: _, .cons r rs => by
    cases r
    rw [RA.strs rs]
    rfl
theorem RA.bls : ∀ {vs : List V} {ns : List Bool}, RA K H vs (ns.map D.bl) → vs = ns.map V.bl
  | [], [], _ => rfl
  | _ :: _, _ :: _, .cons r rs => by
    cases r
    rw [RA.bls rs]
    rfl
theorem RA.ofInts : ∀ (ns : List Int), RA K H (ns.map V.int) (ns.map D.int)
  | [] => .nil
  | n :: ns => .cons (.int n) (RA.ofInts ns)
theorem RA.ofStrs : ∀ (ns : List Str), RA K H (ns.map V.str) (ns.map D.str)
  | [] => .nil
  | n :: ns => .cons (.str n) (RA.ofStrs ns)
end

/-! ### growth: Hx is the part of the heap that the data stand in -/
def Gw (Hx H Hx' H' : Hp) : Prop := Ex Hx Hx' ∧ Ex H H' ∧ Ex Hx' H' ∧ ∀ a o, Hx a = none → H a = some o → Hx' a = none
section
variable {Hx H Hx1 H1 Hx2 H2 : Hp}
theorem Gw.refl (e : Ex Hx H) : Gw Hx H Hx H := ⟨.refl _, .refl _, e, fun _ _ h _ => h⟩
theorem Gw.trans (a : Gw Hx H Hx1 H1) (b : Gw Hx1 H1 Hx2 H2) : Gw Hx H Hx2 H2 :=
  ⟨a.1.trans b.1, a.2.1.trans b.2.1, b.2.2.1, fun x o h1 h2 => b.2.2.2 x o (a.2.2.2 x o h1 h2) (a.2.1 x o h2)⟩
theorem Gw.new {p : Addr} {o : HO} (e : Ex Hx H) (hp : H p = none) : Gw Hx H (upd Hx p o) (upd H p o) := by
  have hx : Hx p = none := fresh_back e hp
  refine ⟨Ex.new hx, Ex.new hp, fun a u h => ?_, fun a u h1 h2 => ?_⟩
  · by_cases ha : a = p
    · subst ha
      rw [upd_same] at h ⊢
      exact h
    · rw [upd_ne ha] at h ⊢
      exact e a u h
  · have ha : a ≠ p := fun z => by
      rw [z, hp] at h2
      cases h2
    rw [upd_ne ha]
    exact h1
end

/-! ### outcomes -/
/-- an exception: its class, its fields -/
structure Xn where
  c : Addr
  fs : List (Str × D)
inductive Rs (α : Type) where
  | ok (a : α) | exc (e : Xn) | bad
def Rs.bind {α β : Type} : Rs α → (α → Rs β) → Rs β
  | .ok a, f => f a
  | .exc e, _ => .exc e
  | .bad, _ => .bad
@[simp] theorem Rs.bind_ok {α β : Type} (a : α) (f : α → Rs β) : (Rs.ok a).bind f = f a := rfl
@[simp] theorem Rs.bind_exc {α β : Type} (e : Xn) (f : α → Rs β) : (Rs.exc e : Rs α).bind f = .exc e := rfl
@[simp] theorem Rs.bind_bad {α β : Type} (f : α → Rs β) : (Rs.bad : Rs α).bind f = .bad := rfl

/-- the exception stands so: its class, its own dict -/
def XR (K : PySem.W.Frag) (H : Hp) (cls : Value) (dd : Option Addr) (e : Xn) : Prop :=
  cls = .ref e.c ∧ ((dd = none ∧ e.fs = []) ∨ ∃ d fv, dd = some d ∧ H d = some (.xd fv) ∧ RF K H fv e.fs)
theorem XR.mono {K : PySem.W.Frag} {H H' : Hp} {cls : Value} {dd : Option Addr} {e : Xn} (x : Ex H H') (h : XR K H cls dd e) : XR K H' cls dd e := by
  obtain ⟨h1, h2 | ⟨d, fv, a, b, c⟩⟩ := h
  · exact ⟨h1, .inl h2⟩
  · exact ⟨h1, .inr ⟨d, fv, a, x _ _ b, RF.mono x c⟩⟩

/-! ### what must be known behind an expression -/
def Pst {α β : Type} (Rel : Hp → β → α → Prop) (K : PySem.W.Frag) (W : WX) (σ : L2.St) (Hx H : Hp) (Q : β → Hp → Prop) : Rs α → Prop
  | .ok d => ∀ v Hx' H', Gw Hx H Hx' H' → Rel Hx' v d → Q v H'
  | .exc e => ∀ cls dd Hx' H', Gw Hx H Hx' H' → XR K Hx' cls dd e → W cls dd σ H'
  | .bad => False
section
variable {α β γ δ' : Type} {Rel : Hp → β → α → Prop} {K : PySem.W.Frag} {W : WX} {σ : L2.St} {Hx H Hx1 H1 : Hp} {Q Q' : β → Hp → Prop}
theorem Pst.imp {r : Rs α} (p : Pst Rel K W σ Hx H Q r) (h : ∀ v H', Q v H' → Q' v H') : Pst Rel K W σ Hx H Q' r := by
  cases r with
  | ok d => exact fun v Hx' H' g rv => h _ _ (p v Hx' H' g rv)
  | exc e => exact p
  | bad => exact p
theorem Pst.later {r : Rs α} (p : Pst Rel K W σ Hx H Q r) (g : Gw Hx H Hx1 H1) : Pst Rel K W σ Hx1 H1 Q r := by
  cases r with
  | ok d => exact fun v Hx' H' g' rv => p v Hx' H' (g.trans g') rv
  | exc e => exact fun c dd Hx' H' g' x => p c dd Hx' H' (g.trans g') x
  | bad => exact p
/-- of a sequence: the first part's -/
theorem Pst.seq {Rel2 : Hp → δ' → γ → Prop} {Q2 : δ' → Hp → Prop} {r : Rs γ} {f : γ → Rs α} (p : Pst Rel K W σ Hx H Q (r.bind f)) :
    (∀ v H1, (∃ Hx1 d, Gw Hx H Hx1 H1 ∧ Rel2 Hx1 v d ∧ Pst Rel K W σ Hx1 H1 Q (f d)) → Q2 v H1) → Pst Rel2 K W σ Hx H Q2 r := by
  intro k
  cases r with
  | ok d => exact fun v Hx' H' g rv => k v H' ⟨Hx', d, g, rv, p.later g⟩
  | exc e => exact p
  | bad => exact p
end

/-! ### expressions -/
abbrev Dv := List (Option D)
/-- the frame holds the data -/
structure EnvR (K : PySem.W.Frag) (Hx H : Hp) (σ : L2.St) (δ : Dv) : Prop where
  ex : Ex Hx H
  len : σ.length = δ.length
  sl : ∀ (i : Nat) (d : D), δ[i]? = some (some d) → ∃ v, σ[i]? = some (some v) ∧ R K Hx v d
theorem EnvR.gw {K : PySem.W.Frag} {Hx H Hx' H' : Hp} {σ : L2.St} {δ : Dv} (e : EnvR K Hx H σ δ) (g : Gw Hx H Hx' H') : EnvR K Hx' H' σ δ :=
  ⟨g.2.2.1, e.len, fun i d h => let ⟨v, h1, h2⟩ := e.sl i d h; ⟨v, h1, h2.mono g.1⟩⟩
abbrev RelD (K : PySem.W.Frag) : Hp → V → D → Prop := fun Hx v d => R K Hx v d
abbrev RelA (K : PySem.W.Frag) : Hp → List V → List D → Prop := fun Hx v d => RA K Hx v d
abbrev RelB : Hp → Bool → Bool → Prop := fun _ v d => v = d
abbrev RelP : Hp → Option Int → Option Int → Prop := fun _ v d => v = d
def EvD (K : PySem.W.Frag) (W : WX) (te : TE) (δ : Dv) (r : Rs D) : Prop := ∀ Hx H σ, EnvR K Hx H σ δ → ∀ Q : VK, Pst (RelD K) K W σ Hx H Q r → te σ H Q
def EvB (K : PySem.W.Frag) (W : WX) (tt : TT) (δ : Dv) (r : Rs Bool) : Prop := ∀ Hx H σ, EnvR K Hx H σ δ → ∀ Q : Bool → Hp → Prop, Pst RelB K W σ Hx H Q r → tt σ H Q
def EvA (K : PySem.W.Frag) (W : WX) (ta : TA) (δ : Dv) (r : Rs (List D)) : Prop := ∀ Hx H σ, EnvR K Hx H σ δ → ∀ Q : List V → Hp → Prop, Pst (RelA K) K W σ Hx H Q r → ta σ H Q
def EvO (K : PySem.W.Frag) (W : WX) (to : TO) (δ : Dv) (r : Rs (Option Int)) : Prop := ∀ Hx H σ, EnvR K Hx H σ δ → ∀ Q : Option Int → Hp → Prop, Pst RelP K W σ Hx H Q r → to σ H Q

section
variable {K : PySem.W.Frag} {W : WX} {δ : Dv}
/-! #### names and constants -/
def eVar (i : Nat) (δ : Dv) : Rs D := match δ[i]? with
  | some (some d) => .ok d
  | _ => .bad
theorem ev_var (i : Nat) : EvD K W (tVar i) δ (eVar i δ) := fun Hx H σ env Q p => by
  unfold eVar at p
  split at p
  · rename_i d h
    obtain ⟨v, h1, h2⟩ := env.sl i d h
    exact ⟨v, h1, p v Hx H (.refl env.ex) h2⟩
  · exact p.elim
theorem ev_c {v : V} {d : D} (h : ∀ Hx, R K Hx v d) : EvD K W (tC v) δ (.ok d) := fun Hx H σ env Q p => p v Hx H (.refl env.ex) (h Hx)
theorem ev_int {i : Int} : EvD K W (tC (.int i)) δ (.ok (.int i)) := ev_c fun _ => .int i
theorem ev_bl {i : Bool} : EvD K W (tC (.bl i)) δ (.ok (.bl i)) := ev_c fun _ => .bl i
theorem ev_non : EvD K W (tC .non) δ (.ok .non) := ev_c fun _ => .non
theorem ev_str {i : Str} : EvD K W (tC (.str i)) δ (.ok (.str i)) := ev_c fun _ => .str i

/-! #### operators -/
/-- an operator's rule and its meaning -/
def ofO {α : Type} : Option α → Rs α
  | some a => .ok a
  | none => .bad
@[simp] theorem ofO_some {α : Type} (a : α) : ofO (some a) = .ok a := rfl
@[simp] theorem ofO_none {α : Type} : ofO (none : Option α) = .bad := rfl
theorem Pst.ofO {α β : Type} {Rel : Hp → β → α → Prop} {σ : L2.St} {Hx H : Hp} {Q : β → Hp → Prop} {o : Option α} (p : Pst Rel K W σ Hx H Q (DL.ofO o)) : ∃ z, o = some z ∧ ∀ v Hx' H', Gw Hx H Hx' H' → Rel Hx' v z → Q v H' := by
  cases o with
  | none => exact p.elim
  | some z => exact ⟨z, rfl, p⟩
def OpD (K : PySem.W.Frag) (r : R2) (f : D → D → Option D) : Prop := ∀ (Hx H : Hp) (x y : V) (d e z : D), Ex Hx H → R K Hx x d → R K Hx y e → f d e = some z → ∀ Q : VK, (∀ v Hx' H', Gw Hx H Hx' H' → R K Hx' v z → Q v H') → r x y H Q
def e2 (f : D → D → Option D) (ra rb : Rs D) : Rs D := ra.bind fun x => rb.bind fun y => ofO (f x y)
theorem ev_op {r : R2} {f : D → D → Option D} {ta tb : TE} {ra rb : Rs D} (ho : OpD K r f) (ha : EvD K W ta δ ra) (hb : EvD K W tb δ rb) : EvD K W (tOp r ta tb) δ (e2 f ra rb) := by
  intro Hx H σ env Q p
  refine ha Hx H σ env _ (p.seq ?_)
  rintro x H1 ⟨Hx1, d, g, rx, p1⟩
  refine hb Hx1 H1 σ (env.gw g) _ (p1.seq ?_)
  rintro y H2 ⟨Hx2, e, g2, ry, p2⟩
  obtain ⟨z, hz, p2⟩ := p2.ofO
  exact ho Hx2 H2 x y d e z g2.2.2.1 (rx.mono g2.1) ry hz Q p2
def UnD (K : PySem.W.Frag) (r : V → Hp → VK → Prop) (f : D → Option D) : Prop := ∀ (Hx H : Hp) (x : V) (d z : D), Ex Hx H → R K Hx x d → f d = some z → ∀ Q : VK, (∀ v Hx' H', Gw Hx H Hx' H' → R K Hx' v z → Q v H') → r x H Q
def e1 (f : D → Option D) (ra : Rs D) : Rs D := ra.bind fun x => ofO (f x)
theorem ev_un {r : V → Hp → VK → Prop} {f : D → Option D} {ta : TE} {ra : Rs D} (ho : UnD K r f) (ha : EvD K W ta δ ra) : EvD K W (tUn r ta) δ (e1 f ra) := by
  intro Hx H σ env Q p
  refine ha Hx H σ env _ (p.seq ?_)
  rintro x H1 ⟨Hx1, d, g, rx, p1⟩
  obtain ⟨z, hz, p1⟩ := p1.ofO
  exact ho Hx1 H1 x d z g.2.2.1 rx hz Q p1

/-! #### truth -/
def toB : D → Rs Bool
  | .bl b => .ok b
  | _ => .bad
theorem ev_test {te : TE} {r : Rs D} (h : EvD K W te δ r) : EvB K W (tTest te) δ (r.bind toB) := by
  intro Hx H σ env Q p
  refine h Hx H σ env _ (p.seq ?_)
  rintro x H1 ⟨Hx1, d, g, rx, p1⟩
  cases rx with
  | bl b => exact ⟨b, rfl, p1 b Hx1 H1 (.refl g.2.2.1) rfl⟩
  | _ => exact p1.elim
theorem ev_tB {te : TE} {r : Rs D} (h : EvD K W te δ r) : EvB K W (tB te) δ (r.bind toB) := ev_test h
def bAnd (a b : Rs Bool) : Rs Bool := a.bind fun x => if x = true then b else .ok false
def bOr (a b : Rs Bool) : Rs Bool := a.bind fun x => if x = true then .ok true else b
def bNot (a : Rs Bool) : Rs Bool := a.bind fun x => .ok (!x)
theorem ev_and {t u : TT} {a b : Rs Bool} (h1 : EvB K W t δ a) (h2 : EvB K W u δ b) : EvB K W (tAnd t u) δ (bAnd a b) := by
  intro Hx H σ env Q p
  refine h1 Hx H σ env _ (p.seq ?_)
  rintro x H1 ⟨Hx1, d, g, rx, p1⟩
  cases rx
  cases x with
  | true => exact iteT (h2 Hx1 H1 σ (env.gw g) Q p1)
  | false => exact iteF (p1 false Hx1 H1 (.refl g.2.2.1) rfl)
theorem ev_or {t u : TT} {a b : Rs Bool} (h1 : EvB K W t δ a) (h2 : EvB K W u δ b) : EvB K W (tOr t u) δ (bOr a b) := by
  intro Hx H σ env Q p
  refine h1 Hx H σ env _ (p.seq ?_)
  rintro x H1 ⟨Hx1, d, g, rx, p1⟩
  cases rx
  cases x with
  | true => exact iteT (p1 true Hx1 H1 (.refl g.2.2.1) rfl)
  | false => exact iteF (h2 Hx1 H1 σ (env.gw g) Q p1)
theorem ev_not {t : TT} {a : Rs Bool} (h1 : EvB K W t δ a) : EvB K W (tNot t) δ (bNot a) := by
  intro Hx H σ env Q p
  refine h1 Hx H σ env _ (p.seq ?_)
  rintro x H1 ⟨Hx1, d, g, rx, p1⟩
  cases rx
  exact p1 (!x) Hx1 H1 (.refl g.2.2.1) rfl
def eIf (c : Rs Bool) (a b : Rs D) : Rs D := c.bind fun x => if x = true then a else b
theorem ev_if {t : TT} {ta tb : TE} {c : Rs Bool} {a b : Rs D} (h : EvB K W t δ c) (h1 : EvD K W ta δ a) (h2 : EvD K W tb δ b) : EvD K W (tIf t ta tb) δ (eIf c a b) := by
  intro Hx H σ env Q p
  refine h Hx H σ env _ (p.seq ?_)
  rintro x H1 ⟨Hx1, d, g, rx, p1⟩
  cases rx
  cases x with
  | true => exact iteT (h1 Hx1 H1 σ (env.gw g) Q p1)
  | false => exact iteF (h2 Hx1 H1 σ (env.gw g) Q p1)
/-- the truth of a value -/
def truD : D → Rs Bool
  | .non => .ok false
  | .bl b => .ok b
  | .int i => .ok (i != 0)
  | .str y => if y.length ≤ sizeLine then .ok ((y.length : Int) != 0) else .bad
  | .lst xs => .ok (!xs.isEmpty)
  | .tup xs => .ok (!xs.isEmpty)
  | .dic xs => .ok (!xs.isEmpty)
  | .sq xs => .ok (!xs.isEmpty)
  | .ins _ _ => .bad
  | .exn _ _ _ => .bad
theorem isEmpty_len {α β : Type} {xs : List α} {ys : List β} (h : xs.length = ys.length) : xs.isEmpty = ys.isEmpty := by
  cases xs <;> cases ys <;> simp_all
theorem RK.length : ∀ {H : Hp} {vs : List (Key × V)} {ds : List (Key × D)}, RK K H vs ds → vs.length = ds.length
  | _, _, _, .nil => rfl
  | _, _, _, .cons _ rs => congrArg (· + 1) (RK.length rs)
theorem truV {Hx H : Hp} {x : V} {d : D} {b : Bool} (e : Ex Hx H) (r : R K Hx x d) (h : truD d = .ok b) : TruV K x H b := by
  cases r with
  | non => exact (Rs.ok.inj h).symm
  | bl b' => exact (Rs.ok.inj h).symm
  | int i => exact (Rs.ok.inj h).symm
  | str y =>
    have h : (if y.length ≤ sizeLine then Rs.ok ((y.length : Int) != 0) else .bad) = .ok b := h
    split at h
    · rename_i hl
      exact ⟨hl, (Rs.ok.inj h).symm⟩
    · cases h
  | lst h1 h2 =>
    refine .inl ⟨_, SqL.of (e _ _ h1), ?_⟩
    rw [isEmpty_len h2.length]
    exact (Rs.ok.inj h).symm
  | tup h1 h2 =>
    refine .inr (.inl ⟨_, ex_t e h1, ?_⟩)
    rw [isEmpty_len h2.length]
    exact (Rs.ok.inj h).symm
  | dic h1 h2 =>
    refine .inr (.inr ⟨_, e _ _ h1, ?_⟩)
    rw [isEmpty_len h2.length]
    exact (Rs.ok.inj h).symm
  | sq h1 =>
    refine .inl ⟨_, ex_l e h1, ?_⟩
    rw [isEmpty_len (List.length_map _)]
    exact (Rs.ok.inj h).symm
  | ins h1 h2 => cases h
  | exn0 a => cases h
  | exn1 h1 h2 => cases h
theorem truNotExc {d : D} {e : Xn} : truD d ≠ .exc e := by
  cases d with
  | str y =>
    show (if y.length ≤ sizeLine then Rs.ok ((y.length : Int) != 0) else .bad) ≠ .exc e
    split <;> (intro h; cases h)
  | _ => intro h; cases h
theorem ev_truth {te : TE} {r : Rs D} (h : EvD K W te δ r) : EvB K W (fun σ H Q => te σ H fun x H1 => ∃ k, TruV K x H1 k ∧ Q k H1) δ (r.bind truD) := by
  intro Hx H σ env Q p
  refine h Hx H σ env _ (p.seq ?_)
  rintro x H1 ⟨Hx1, d, g, rx, p1⟩
  cases ht : truD d with
  | ok b =>
    rw [ht] at p1
    exact ⟨b, truV g.2.2.1 rx ht, p1 b Hx1 H1 (.refl g.2.2.1) rfl⟩
  | exc e => exact absurd ht truNotExc
  | bad =>
    rw [ht] at p1
    exact p1.elim
/-! #### x and y, x or y, not x, as values -/
def eOr (a b : Rs D) : Rs D := a.bind fun x => (truD x).bind fun k => if k = true then .ok x else b
def eAnd (a b : Rs D) : Rs D := a.bind fun x => (truD x).bind fun k => if k = true then b else .ok x
def eNot (a : Rs D) : Rs D := a.bind fun x => (truD x).bind fun k => .ok (.bl (!k))
theorem ev_orT {ta tb : TE} {a b : Rs D} (h1 : EvD K W ta δ a) (h2 : EvD K W tb δ b) : EvD K W (tOrT K ta tb) δ (eOr a b) := by
  intro Hx H σ env Q p
  refine h1 Hx H σ env _ (p.seq ?_)
  rintro x H1 ⟨Hx1, d, g, rx, p1⟩
  cases ht : truD d with
  | ok k =>
    rw [ht] at p1
    refine ⟨k, truV g.2.2.1 rx ht, ?_⟩
    cases k with
    | true => exact iteT (p1 x Hx1 H1 (.refl g.2.2.1) rx)
    | false => exact iteF (h2 Hx1 H1 σ (env.gw g) Q p1)
  | exc e => exact absurd ht truNotExc
  | bad =>
    rw [ht] at p1
    exact p1.elim
theorem ev_andT {ta tb : TE} {a b : Rs D} (h1 : EvD K W ta δ a) (h2 : EvD K W tb δ b) : EvD K W (tAndT K ta tb) δ (eAnd a b) := by
  intro Hx H σ env Q p
  refine h1 Hx H σ env _ (p.seq ?_)
  rintro x H1 ⟨Hx1, d, g, rx, p1⟩
  cases ht : truD d with
  | ok k =>
    rw [ht] at p1
    refine ⟨k, truV g.2.2.1 rx ht, ?_⟩
    cases k with
    | true => exact iteT (h2 Hx1 H1 σ (env.gw g) Q p1)
    | false => exact iteF (p1 x Hx1 H1 (.refl g.2.2.1) rx)
  | exc e => exact absurd ht truNotExc
  | bad =>
    rw [ht] at p1
    exact p1.elim
theorem ev_notT {ta : TE} {a : Rs D} (h1 : EvD K W ta δ a) : EvD K W (tNotT K ta) δ (eNot a) := by
  intro Hx H σ env Q p
  refine h1 Hx H σ env _ (p.seq ?_)
  rintro x H1 ⟨Hx1, d, g, rx, p1⟩
  cases ht : truD d with
  | ok k =>
    rw [ht] at p1
    exact ⟨k, truV g.2.2.1 rx ht, p1 _ Hx1 H1 (.refl g.2.2.1) (.bl _)⟩
  | exc e => exact absurd ht truNotExc
  | bad =>
    rw [ht] at p1
    exact p1.elim
/-! #### argument lists, displays -/
def aCons (a : Rs D) (as : Rs (List D)) : Rs (List D) := a.bind fun x => as.bind fun xs => .ok (x :: xs)
theorem ev_nil : EvA K W tNil δ (.ok []) := fun Hx H σ env Q p => p [] Hx H (.refl env.ex) .nil
theorem ev_cons {ta : TE} {tr : TA} {a : Rs D} {as : Rs (List D)} (h1 : EvD K W ta δ a) (h2 : EvA K W tr δ as) : EvA K W (tCons ta tr) δ (aCons a as) := by
  intro Hx H σ env Q p
  refine h1 Hx H σ env _ (p.seq ?_)
  rintro x H1 ⟨Hx1, d, g, rx, p1⟩
  refine h2 Hx1 H1 σ (env.gw g) _ (p1.seq ?_)
  rintro xs H2 ⟨Hx2, ds, g2, rxs, p2⟩
  exact p2 (x :: xs) Hx2 H2 (.refl g2.2.2.1) (.cons (rx.mono g2.1) rxs)
def eTup (as : Rs (List D)) : Rs D := as.bind fun xs => if xs.length ≤ sizeLine then .ok (.tup xs) else .bad
theorem ev_tup {ta : TA} {as : Rs (List D)} (h : EvA K W ta δ as) : EvD K W (tTup ta) δ (eTup as) := by
  intro Hx H σ env Q p
  refine h Hx H σ env _ (p.seq ?_)
  rintro xs H1 ⟨Hx1, ds, g, rx, p1⟩
  split at p1
  · rename_i hl
    refine ⟨by rw [rx.length]; exact hl, fun q hq => ?_⟩
    refine p1 (.ref q) _ _ (Gw.new g.2.2.1 hq) (.tup (SqT.of upd_same) (rx.mono (Evl.Ex.new (fresh_back g.2.2.1 hq))))
  · exact p1.elim
/-! #### calls of built-ins by values -/
def CbD (K : PySem.W.Frag) (r : List V → Hp → VK → Prop) (f : List D → Option D) : Prop := ∀ (Hx H : Hp) (xs : List V) (ds : List D) (z : D), Ex Hx H → RA K Hx xs ds → f ds = some z → ∀ Q : VK, (∀ v Hx' H', Gw Hx H Hx' H' → R K Hx' v z → Q v H') → r xs H Q
def eCb (f : List D → Option D) (as : Rs (List D)) : Rs D := as.bind fun xs => ofO (f xs)
theorem ev_cb {r : List V → Hp → VK → Prop} {f : List D → Option D} {ta : TA} {as : Rs (List D)} (ho : CbD K r f) (h : EvA K W ta δ as) : EvD K W (tCB r ta) δ (eCb f as) := by
  intro Hx H σ env Q p
  refine h Hx H σ env _ (p.seq ?_)
  rintro xs H1 ⟨Hx1, ds, g, rx, p1⟩
  obtain ⟨z, hz, p1⟩ := p1.ofO
  exact ho Hx1 H1 xs ds z g.2.2.1 rx hz Q p1
/-! #### calls of defs -/
/-- the promise of a def that computes f -/
def spD (K : PySem.W.Frag) (f : List D → Rs D) : Sp := fun vs H Q E => ∃ B0 ds, Ex B0 H ∧ RA K B0 vs ds ∧ Pst (RelD K) K (fun c d _ H' => E c d H') [] B0 H Q (f ds)
theorem ev_callS {f : List D → Rs D} {ta : TA} {as : Rs (List D)} (h : EvA K W ta δ as) : EvD K W (tCallS (spD K f) (WE W) ta) δ (as.bind f) := by
  intro Hx H σ env Q p
  refine h Hx H σ env _ (p.seq ?_)
  rintro xs H1 ⟨Hx1, ds, g, rx, p1⟩
  refine ⟨Hx1, ds, g.2.2.1, rx, ?_⟩
  cases hf : f ds with
  | ok d =>
    rw [hf] at p1
    exact p1
  | exc e =>
    rw [hf] at p1
    exact p1
  | bad =>
    rw [hf] at p1
    exact p1.elim
/-- .. with defaults -/
theorem ev_callSD {f : List D → Rs D} {ta : TA} {as : Rs (List D)} {dvs : List V} {dds : List D} (hd : ∀ Hx, RA K Hx dvs dds) (h : EvA K W ta δ as) : EvD K W (tCallSD (spD K f) dvs (WE W) ta) δ (as.bind fun xs => f (xs ++ dds)) := by
  intro Hx H σ env Q p
  refine h Hx H σ env _ (p.seq ?_)
  rintro xs H1 ⟨Hx1, ds, g, rx, p1⟩
  refine ⟨Hx1, ds ++ dds, g.2.2.1, rx.append (hd _), ?_⟩
  cases hf : f (ds ++ dds) with
  | ok d =>
    rw [hf] at p1
    exact p1
  | exc e =>
    rw [hf] at p1
    exact p1
  | bad =>
    rw [hf] at p1
    exact p1.elim
end

/-! ### what makes a new object that may change later -/
/-- a new list, dict or set, its items data -/
inductive NO where
  | lst (xs : List D) | dic (kvs : List (Key × D)) | kset (ks : List Key)
def RN (P : Program) (w : World) (K : PySem.W.Frag) (Hx : Hp) (a : Addr) (ho : HO) : NO → Prop
  | .lst xs => ∃ vs, ho = .lst vs ∧ RA K Hx vs xs
  | .dic xs => ∃ vs, ho = .dK vs ∧ RK K Hx vs xs
  | .kset ks => ∃ S n, ho = SetK P w a S n ∧ n ≤ ks.length ∧ ∀ k, S k = ks.any fun q => decide (q = k)
def PsN (P : Program) (w : World) (K : PySem.W.Frag) (W : WX) (σ : L2.St) (Hx H : Hp) (Q : VK) : Rs NO → Prop
  | .ok o => ∀ p ho Hx' H', Gw Hx H Hx' H' → H p = none → Hx' p = none → H' p = some ho → RN P w K Hx' p ho o → Q (.ref p) H'
  | .exc e => ∀ cls dd Hx' H', Gw Hx H Hx' H' → XR K Hx' cls dd e → W cls dd σ H'
  | .bad => False
def EvN (P : Program) (w : World) (K : PySem.W.Frag) (W : WX) (te : TE) (δ : Dv) (r : Rs NO) : Prop := ∀ Hx H σ, EnvR K Hx H σ δ → ∀ Q : VK, PsN P w K W σ Hx H Q r → te σ H Q
theorem PsN.ofO {P : Program} {w : World} {K : PySem.W.Frag} {W : WX} {σ : L2.St} {Hx H : Hp} {Q : VK} {o : Option NO} (p : PsN P w K W σ Hx H Q (DL.ofO o)) : ∃ z, o = some z ∧ ∀ p ho Hx' H', Gw Hx H Hx' H' → H p = none → Hx' p = none → H' p = some ho → RN P w K Hx' p ho z → Q (.ref p) H' := by
  cases o with
  | none => exact p.elim
  | some z => exact ⟨z, rfl, p⟩
theorem PsN.later {P : Program} {w : World} {K : PySem.W.Frag} {W : WX} {σ : L2.St} {Hx H Hx1 H1 : Hp} {Q : VK} {r : Rs NO} (p : PsN P w K W σ Hx H Q r) (g : Gw Hx H Hx1 H1) : PsN P w K W σ Hx1 H1 Q r := by
  cases r with
  | ok d =>
    refine fun q ho Hx' H' g' h1 h2 h3 r => p q ho Hx' H' (g.trans g') ?_ h2 h3 r
    cases e : (H q) with
    | none => rfl
    | some u =>
      rw [g.2.1 _ _ e] at h1
      cases h1
  | exc e => exact fun c dd Hx' H' g' x => p c dd Hx' H' (g.trans g') x
  | bad => exact p
theorem PsN.seq {α β : Type} {P : Program} {w : World} {K : PySem.W.Frag} {W : WX} {σ : L2.St} {Hx H : Hp} {Q : VK} {Rel2 : Hp → β → α → Prop} {Q2 : β → Hp → Prop} {r : Rs α} {f : α → Rs NO} (p : PsN P w K W σ Hx H Q (r.bind f)) :
    (∀ v H1, (∃ Hx1 d, Gw Hx H Hx1 H1 ∧ Rel2 Hx1 v d ∧ PsN P w K W σ Hx1 H1 Q (f d)) → Q2 v H1) → Pst Rel2 K W σ Hx H Q2 r := by
  intro k
  cases r with
  | ok d => exact fun v Hx' H' g rv => k v H' ⟨Hx', d, g, rv, p.later g⟩
  | exc e => exact p
  | bad => exact p
/-- as data -/
def noD : NO → Rs D
  | .lst xs => .ok (.lst xs)
  | .dic xs => .ok (.dic xs)
  | .kset _ => .bad
section
variable {P : Program} {w : World} {K : PySem.W.Frag} {W : WX} {δ : Dv}
theorem Gw.adopt {Hx H Hx1 H1 : Hp} {p : Addr} {ho : HO} (ex : Ex Hx H) (g : Gw Hx H Hx1 H1) (h : H p = none) (h1 : H1 p = some ho) : Gw Hx H (upd Hx1 p ho) H1 := by
  have hx : Hx p = none := fresh_back ex h
  refine ⟨fun a o e => ?_, g.2.1, fun a o e => ?_, fun a o e1 e2 => ?_⟩
  · have : a ≠ p := fun z => by
      rw [z, hx] at e
      cases e
    rw [upd_ne this]
    exact g.1 a o e
  · by_cases ha : a = p
    · subst ha
      rw [upd_same] at e
      rw [h1]
      exact e
    · rw [upd_ne ha] at e
      exact g.2.2.1 a o e
  · have : a ≠ p := fun z => by
      rw [z, h] at e2
      cases e2
    rw [upd_ne this]
    exact g.2.2.2 a o e1 e2
end
end DL
set_option Elab.async false
set_option linter.all false
set_option maxRecDepth 100000
set_option maxHeartbeats 4000000
/-! The data layer, 2: states (slots, objects that change), statements, defs. -/
namespace DL
open PySem PySem.Spec PyProof.Rows L2
open Evl (Ex ex_l ex_t fresh_back)
set_option autoImplicit false

/-- what a slot holds: data, or an object of the def's own that may change -/
inductive Xv where
  | dat (d : D) | cell (k : Nat)
inductive OO where
  | lst (xs : List Xv) | dic (kvs : List (Key × Xv)) | kset (ks : List Key) | ins (c : Addr) (fs : List (Str × Xv))
structure S where
  sl : List (Option Xv)
  ce : List (Option OO)

/-! ### representation -/
def RX (K : PySem.W.Frag) (ρ : List Addr) (Hb : Hp) (v : V) : Xv → Prop
  | .dat d => R K Hb v d
  | .cell k => ∃ a, ρ[k]? = some a ∧ v = .ref a
abbrev RXs (K : PySem.W.Frag) (ρ : List Addr) (Hb : Hp) : List V → List Xv → Prop := Paired (RX K ρ Hb)
abbrev RXk (K : PySem.W.Frag) (ρ : List Addr) (Hb : Hp) : List (Key × V) → List (Key × Xv) → Prop := Paired fun p q => p.1 = q.1 ∧ RX K ρ Hb p.2 q.2
abbrev RXf (K : PySem.W.Frag) (ρ : List Addr) (Hb : Hp) : List (Str × V) → List (Str × Xv) → Prop := Paired fun p q => p.1 = q.1 ∧ RX K ρ Hb p.2 q.2
def RO (P : Program) (w : World) (K : PySem.W.Frag) (ρ : List Addr) (Hb : Hp) (a : Addr) (ho : HO) : OO → Prop
  | .lst xs => ∃ vs, ho = .lst vs ∧ RXs K ρ Hb vs xs
  | .dic xs => ∃ vs, ho = .dK vs ∧ RXk K ρ Hb vs xs
  | .kset ks => ∃ S n, ho = SetK P w a S n ∧ n ≤ ks.length ∧ ∀ k, S k = ks.any fun q => decide (q = k)
  | .ins c fs => ∃ dx vs, ho = .ins c dx vs ∧ RXf K ρ Hb vs fs
section
variable {P : Program} {w : World} {K : PySem.W.Frag} {ρ ρ' : List Addr} {Hb Hb' : Hp}
theorem RX.mono (e : Ex Hb Hb') (hρ : ∀ (k : Nat) a, ρ[k]? = some a → ρ'[k]? = some a) {v : V} {x : Xv} (h : RX K ρ Hb v x) : RX K ρ' Hb' v x := by
  cases x with
  | dat d => exact R.mono e h
  | cell k =>
    obtain ⟨a, h1, h2⟩ := h
    exact ⟨a, hρ k a h1, h2⟩
theorem RO.mono (e : Ex Hb Hb') (hρ : ∀ (k : Nat) a, ρ[k]? = some a → ρ'[k]? = some a) {a : Addr} {ho : HO} {o : OO} (h : RO P w K ρ Hb a ho o) : RO P w K ρ' Hb' a ho o := by
  cases o with
  | lst xs =>
    obtain ⟨vs, h1, h2⟩ := h
    exact ⟨vs, h1, L2.Paired.mapP h2 fun a b r => r.mono e hρ⟩
  | dic xs =>
    obtain ⟨vs, h1, h2⟩ := h
    exact ⟨vs, h1, L2.Paired.mapP h2 fun a b r => ⟨r.1, r.2.mono e hρ⟩⟩
  | kset ks => exact h
  | ins c fs =>
    obtain ⟨dx, vs, h1, h2⟩ := h
    exact ⟨dx, vs, h1, L2.Paired.mapP h2 fun a b r => ⟨r.1, r.2.mono e hρ⟩⟩
end

structure Fr (P : Program) (w : World) (K : PySem.W.Frag) (B0 H0 : Hp) (A0 : List Addr) (ρ : List Addr) (Hb H : Hp) (σ : L2.St) (s : S) : Prop where
  ex : Ex Hb H
  b0 : Ex B0 Hb
  h0 : Ex H0 H
  hid : ∀ a o, B0 a = none → H0 a = some o → Hb a = none
  len : ρ.length = s.ce.length
  slen : σ.length = s.sl.length
  nd : ρ.Nodup
  anc : ∀ a, A0.head? = some a → ρ.head? = some a
  there : ∀ a ∈ ρ, (∃ o, H a = some o) ∧ H0 a = none
  sl : ∀ (i : Nat) x, s.sl[i]? = some (some x) → ∃ v, σ[i]? = some (some v) ∧ RX K ρ Hb v x
  ce : ∀ (k : Nat) o, s.ce[k]? = some (some o) → ∃ a ho, ρ[k]? = some a ∧ Hb a = none ∧ H a = some ho ∧ RO P w K ρ Hb a ho o

/-! ### views -/
/-- the data that a state's value is, read through (of nesting n at most) -/
def viewX (ce : List (Option OO)) : Nat → Xv → Option D
  | _, .dat d => some d
  | 0, .cell _ => none
  | n + 1, .cell k => match ce[k]? with
    | some (some (.lst xs)) => (xs.mapM (viewX ce n)).map D.lst
    | some (some (.dic kvs)) => (kvs.mapM fun p => (viewX ce n p.2).map fun d => (p.1, d)).map D.dic
    | some (some (.ins c fs)) => (fs.mapM fun p => (viewX ce n p.2).map fun d => (p.1, d)).map (D.ins c)
    | _ => none
def envV (s : S) : Dv := s.sl.map fun o => o.bind (viewX s.ce 3)
def baseX : Xv → Option D
  | .dat d => some d
  | .cell _ => none
def envB (s : S) : Dv := s.sl.map fun o => o.bind baseX
/-- the base and the def's own objects -/
noncomputable def heapV (ρ : List Addr) (Hb H : Hp) : Hp := fun a => match Hb a with
  | some o => some o
  | none => open Classical in if a ∈ ρ then H a else none
theorem mapM_cons_some {α β : Type} {f : α → Option β} {x : α} {xs : List α} {ys : List β} (h : (x :: xs).mapM f = some ys) : ∃ y zs, f x = some y ∧ xs.mapM f = some zs ∧ ys = y :: zs := by
  rw [List.mapM_cons] at h
  cases hx : f x with
  | none =>
    rw [hx] at h
    cases h
  | some y =>
    rw [hx] at h
    cases hr : xs.mapM f with
    | none =>
      rw [hr] at h
      cases h
    | some zs =>
      rw [hr] at h
      exact ⟨y, zs, rfl, rfl, (Option.some.inj h).symm⟩
theorem mapM_nil_some {α β : Type} {f : α → Option β} {ys : List β} (h : ([] : List α).mapM f = some ys) : ys = [] := (Option.some.inj h).symm
section
variable {P : Program} {w : World} {K : PySem.W.Frag} {B0 H0 : Hp} {A0 : List Addr} {ρ : List Addr} {Hb H : Hp} {σ : L2.St} {s : S}
theorem heapV_base {a : Addr} {o : HO} (h : Hb a = some o) : heapV ρ Hb H a = some o := by
  unfold heapV
  rw [h]
theorem heapV_cell {a : Addr} (h : Hb a = none) (hm : a ∈ ρ) : heapV ρ Hb H a = H a := by
  unfold heapV
  rw [h]
  exact if_pos hm
theorem heapV_ex : Ex Hb (heapV ρ Hb H) := fun _ _ h => heapV_base h
theorem heapV_in (e : Ex Hb H) : Ex (heapV ρ Hb H) H := fun a o h => by
  unfold heapV at h
  cases hb : Hb a with
  | some u =>
    rw [hb] at h
    cases h
    exact e _ _ hb
  | none =>
    rw [hb] at h
    by_cases hm : a ∈ ρ
    · simp only [if_pos hm] at h
      exact h
    · simp only [if_neg hm] at h
      cases h
theorem heapV_none {a : Addr} (h : Hb a = none) (hm : a ∉ ρ) : heapV ρ Hb H a = none := by
  unfold heapV
  rw [h]
  exact if_neg hm
theorem RX.base {v : V} {x : Xv} {d : D} (h : RX K ρ Hb v x) (e : baseX x = some d) : R K Hb v d := by
  cases x with
  | dat u =>
    cases e
    exact h
  | cell k => cases e
theorem RXs.view {n : Nat} {ce : List (Option OO)} (ih : ∀ {v : V} {x : Xv} {d : D}, RX K ρ Hb v x → viewX ce n x = some d → R K (heapV ρ Hb H) v d) :
    ∀ {vs : List V} {xs : List Xv} {ds : List D}, RXs K ρ Hb vs xs → xs.mapM (viewX ce n) = some ds → RA K (heapV ρ Hb H) vs ds := by
  intro vs xs ds r
  induction r generalizing ds with
  | nil =>
    intro h
    rw [mapM_nil_some h]
    exact .nil
  | cons r _ ihl =>
    intro h
    obtain ⟨y, zs, h1, h2, rfl⟩ := mapM_cons_some h
    exact .cons (ih r h1) (ihl h2)
theorem RXk.view {n : Nat} {ce : List (Option OO)} (ih : ∀ {v : V} {x : Xv} {d : D}, RX K ρ Hb v x → viewX ce n x = some d → R K (heapV ρ Hb H) v d) :
    ∀ {vs : List (Key × V)} {xs : List (Key × Xv)} {ds : List (Key × D)}, RXk K ρ Hb vs xs → (xs.mapM fun p => (viewX ce n p.2).map fun d => (p.1, d)) = some ds → RK K (heapV ρ Hb H) vs ds := by
  intro vs xs ds r
  induction r generalizing ds with
  | nil =>
    intro h
    rw [mapM_nil_some h]
    exact .nil
  | @cons p q _ _ r _ ihl =>
    intro h
    obtain ⟨y, zs, h1, h2, rfl⟩ := mapM_cons_some h
    obtain ⟨k, v⟩ := p
    obtain ⟨k', x⟩ := q
    obtain ⟨e, r⟩ := r
    dsimp only at e r h1
    subst e
    cases hx : viewX ce n x with
    | none =>
      rw [hx] at h1
      cases h1
    | some d =>
      rw [hx] at h1
      cases h1
      exact .cons (ih r hx) (ihl h2)
theorem RXf.view {n : Nat} {ce : List (Option OO)} (ih : ∀ {v : V} {x : Xv} {d : D}, RX K ρ Hb v x → viewX ce n x = some d → R K (heapV ρ Hb H) v d) :
    ∀ {vs : List (Str × V)} {xs : List (Str × Xv)} {ds : List (Str × D)}, RXf K ρ Hb vs xs → (xs.mapM fun p => (viewX ce n p.2).map fun d => (p.1, d)) = some ds → RF K (heapV ρ Hb H) vs ds := by
  intro vs xs ds r
  induction r generalizing ds with
  | nil =>
    intro h
    rw [mapM_nil_some h]
    exact .nil
  | @cons p q _ _ r _ ihl =>
    intro h
    obtain ⟨y, zs, h1, h2, rfl⟩ := mapM_cons_some h
    obtain ⟨k, v⟩ := p
    obtain ⟨k', x⟩ := q
    obtain ⟨e, r⟩ := r
    dsimp only at e r h1
    subst e
    cases hx : viewX ce n x with
    | none =>
      rw [hx] at h1
      cases h1
    | some d =>
      rw [hx] at h1
      cases h1
      exact .cons (ih r hx) (ihl h2)
theorem Fr.viewX (F : Fr P w K B0 H0 A0 ρ Hb H σ s) : ∀ (n : Nat) {v : V} {x : Xv} {d : D}, RX K ρ Hb v x → DL.viewX s.ce n x = some d → R K (heapV ρ Hb H) v d := by
  intro n
  induction n with
  | zero =>
    intro v x d r e
    cases x with
    | dat u =>
      cases e
      exact R.mono heapV_ex r
    | cell k => cases e
  | succ n ih =>
    intro v x d r e
    cases x with
    | dat u =>
      cases e
      exact R.mono heapV_ex r
    | cell k =>
      obtain ⟨a, ha, rfl⟩ := r
      unfold DL.viewX at e
      cases hc : s.ce[k]? with
      | none =>
        rw [hc] at e
        cases e
      | some oo =>
        rw [hc] at e
        cases oo with
        | none => cases e
        | some o =>
          obtain ⟨a', ho, ha', hb, hh, ro⟩ := F.ce k o hc
          rw [ha] at ha'
          cases ha'
          have hv : heapV ρ Hb H a = some ho := (heapV_cell hb (List.mem_of_getElem? ha)).trans hh
          cases o with
          | lst xs =>
            obtain ⟨vs, rfl, rx⟩ := ro
            dsimp only at e
            cases hm : xs.mapM (DL.viewX s.ce n) with
            | none =>
              rw [hm] at e
              cases e
            | some ds =>
              rw [hm] at e
              cases e
              exact .lst hv (RXs.view ih rx hm)
          | dic xs =>
            obtain ⟨vs, rfl, rx⟩ := ro
            dsimp only at e
            cases hm : (xs.mapM fun p => (DL.viewX s.ce n p.2).map fun d => (p.1, d)) with
            | none =>
              rw [hm] at e
              cases e
            | some ds =>
              rw [hm] at e
              cases e
              exact .dic hv (RXk.view ih rx hm)
          | kset ks => cases e
          | ins c fs =>
            obtain ⟨dx, vs, rfl, rx⟩ := ro
            dsimp only at e
            cases hm : (fs.mapM fun p => (DL.viewX s.ce n p.2).map fun d => (p.1, d)) with
            | none =>
              rw [hm] at e
              cases e
            | some ds =>
              rw [hm] at e
              cases e
              exact .ins hv (RXf.view ih rx hm)
theorem env_map {f : Xv → Option D} {sl : List (Option Xv)} {i : Nat} {d : D} (h : (sl.map fun o => o.bind f)[i]? = some (some d)) : ∃ x, sl[i]? = some (some x) ∧ f x = some d := by
  rw [List.getElem?_map] at h
  cases hs : sl[i]? with
  | none =>
    rw [hs] at h
    cases h
  | some o =>
    rw [hs] at h
    cases o with
    | none => cases h
    | some x => exact ⟨x, rfl, Option.some.inj h⟩
theorem Fr.envV (F : Fr P w K B0 H0 A0 ρ Hb H σ s) : EnvR K (heapV ρ Hb H) H σ (DL.envV s) :=
  ⟨heapV_in F.ex, by unfold DL.envV; rw [List.length_map]; exact F.slen, fun i d h => by
    obtain ⟨x, h1, h2⟩ := env_map h
    obtain ⟨v, h3, r⟩ := F.sl i x h1
    exact ⟨v, h3, F.viewX 3 r h2⟩⟩
theorem Fr.envB (F : Fr P w K B0 H0 A0 ρ Hb H σ s) : EnvR K Hb H σ (DL.envB s) :=
  ⟨F.ex, by unfold DL.envB; rw [List.length_map]; exact F.slen, fun i d h => by
    obtain ⟨x, h1, h2⟩ := env_map h
    obtain ⟨v, h3, r⟩ := F.sl i x h1
    exact ⟨v, h3, r.base h2⟩⟩
/-- the heap grows, the base with it -/
theorem Fr.gw {Hb' H' : Hp} (F : Fr P w K B0 H0 A0 ρ Hb H σ s) (g : Gw Hb H Hb' H') : Fr P w K B0 H0 A0 ρ Hb' H' σ s where
  ex := g.2.2.1
  b0 := F.b0.trans g.1
  h0 := F.h0.trans g.2.1
  hid := fun a o h1 h2 => g.2.2.2 a o (F.hid a o h1 h2) (F.h0 a o h2)
  len := F.len
  slen := F.slen
  nd := F.nd
  anc := F.anc
  there := fun a h => ⟨let ⟨o, e⟩ := (F.there a h).1; ⟨o, g.2.1 _ _ e⟩, (F.there a h).2⟩
  sl := fun i x h => let ⟨v, h1, h2⟩ := F.sl i x h; ⟨v, h1, h2.mono g.1 fun _ _ z => z⟩
  ce := fun k o h => let ⟨a, ho, h1, h2, h3, h4⟩ := F.ce k o h; ⟨a, ho, h1, g.2.2.2 _ _ h2 h3, g.2.1 _ _ h3, h4.mono g.1 fun _ _ z => z⟩
/-- the heap grows, the base stays -/
theorem Fr.grow {H' : Hp} (F : Fr P w K B0 H0 A0 ρ Hb H σ s) (e : Ex H H') : Fr P w K B0 H0 A0 ρ Hb H' σ s where
  ex := F.ex.trans e
  b0 := F.b0
  h0 := F.h0.trans e
  hid := F.hid
  len := F.len
  slen := F.slen
  nd := F.nd
  anc := F.anc
  there := fun a h => ⟨let ⟨o, q⟩ := (F.there a h).1; ⟨o, e _ _ q⟩, (F.there a h).2⟩
  sl := F.sl
  ce := fun k o h => let ⟨a, ho, h1, h2, h3, h4⟩ := F.ce k o h; ⟨a, ho, h1, h2, e _ _ h3, h4⟩
/-- a slot is set -/
theorem Fr.set {i : Nat} {v : V} {x : Xv} (F : Fr P w K B0 H0 A0 ρ Hb H σ s) (r : RX K ρ Hb v x) : Fr P w K B0 H0 A0 ρ Hb H (σ.set i (some v)) { s with sl := s.sl.set i (some x) } where
  ex := F.ex
  b0 := F.b0
  h0 := F.h0
  hid := F.hid
  len := F.len
  slen := by rw [List.length_set, List.length_set]; exact F.slen
  nd := F.nd
  anc := F.anc
  there := F.there
  sl := fun j y h => by
    by_cases hj : i = j
    · subst hj
      by_cases hl : i < s.sl.length
      · have h : (s.sl.set i (some x))[i]? = some (some y) := h
        rw [List.getElem?_set_self hl] at h
        cases h
        exact ⟨v, by rw [List.getElem?_set_self (by rw [F.slen]; exact hl)], r⟩
      · have h : (s.sl.set i (some x))[i]? = some (some y) := h
        rw [List.getElem?_eq_none (by rw [List.length_set]; omega)] at h
        cases h
    · have h : (s.sl.set i (some x))[j]? = some (some y) := h
      rw [List.getElem?_set_ne hj] at h ⊢
      exact F.sl j y h
  ce := F.ce
/-- slots are forgotten -/
theorem Fr.weak {sl' : List (Option Xv)} {σ' : L2.St} (F : Fr P w K B0 H0 A0 ρ Hb H σ s) (hl : σ'.length = sl'.length) (h : ∀ (i : Nat) x, sl'[i]? = some (some x) → s.sl[i]? = some (some x) ∧ σ'[i]? = σ[i]?) : Fr P w K B0 H0 A0 ρ Hb H σ' { s with sl := sl' } where
  ex := F.ex
  b0 := F.b0
  h0 := F.h0
  hid := F.hid
  len := F.len
  slen := hl
  nd := F.nd
  anc := F.anc
  there := F.there
  sl := fun j y e => by
    obtain ⟨h1, h2⟩ := h j y e
    rw [h2]
    exact F.sl j y h1
  ce := F.ce
theorem notIn_of_none {ρ : List Addr} {H : Hp} {p : Addr} (h : ∀ a ∈ ρ, ∃ o, H a = some o) (hp : H p = none) : p ∉ ρ := fun hm => by
  obtain ⟨o, e⟩ := h p hm
  rw [hp] at e
  cases e
theorem app_get {ρ : List Addr} {p : Addr} (k : Nat) (a : Addr) (h : ρ[k]? = some a) : (ρ ++ [p])[k]? = some a := by
  have hk : k < ρ.length := (List.getElem?_eq_some_iff.mp h).1
  rw [List.getElem?_append_left hk]
  exact h
theorem head_app {ρ : List Addr} {p a : Addr} (h : ρ.head? = some a) : (ρ ++ [p]).head? = some a := by
  cases ρ with
  | nil => cases h
  | cons b r => exact h
/-- a new object that may change -/
theorem Fr.new {p : Addr} {ho : HO} {o : OO} (F : Fr P w K B0 H0 A0 ρ Hb H σ s) (hp : H p = none) (r : RO P w K ρ Hb p ho o) :
    Fr P w K B0 H0 A0 (ρ ++ [p]) Hb (upd H p ho) σ { s with ce := s.ce ++ [some o] } := by
  have e : Ex H (upd H p ho) := Evl.Ex.new hp
  refine ⟨F.ex.trans e, F.b0, F.h0.trans e, F.hid, by simp [F.len], F.slen, ?_, (fun a h => head_app (F.anc a h)), fun a ha => ?_, fun i x h => ?_, fun k u h => ?_⟩
  · rw [List.nodup_append]
    refine ⟨F.nd, by simp, fun a ha b hb => ?_⟩
    have : b = p := by simpa using hb
    subst this
    intro z
    subst z
    exact notIn_of_none (fun a h => (F.there a h).1) hp ha
  · rcases List.mem_append.mp ha with h | h
    · obtain ⟨⟨u, h1⟩, h2⟩ := F.there a h
      exact ⟨⟨u, e _ _ h1⟩, h2⟩
    · have : a = p := by simpa using h
      subst this
      exact ⟨⟨ho, upd_same⟩, fresh_back F.h0 hp⟩
  · obtain ⟨v, h1, h2⟩ := F.sl i x h
    exact ⟨v, h1, h2.mono (Evl.Ex.refl _) app_get⟩
  · have h : (s.ce ++ [some o])[k]? = some (some u) := h
    by_cases hk : k < s.ce.length
    · rw [List.getElem?_append_left hk] at h
      obtain ⟨a, hu, h1, h2, h3, h4⟩ := F.ce k u h
      exact ⟨a, hu, app_get k a h1, h2, e _ _ h3, h4.mono (Evl.Ex.refl _) app_get⟩
    · rw [List.getElem?_append_right (by omega)] at h
      have hk0 : k = s.ce.length := by
        have := (List.getElem?_eq_some_iff.mp h).1
        simp at this
        omega
      subst hk0
      have eo : o = u := by simpa using h
      subst eo
      refine ⟨p, ho, ?_, fresh_back F.ex hp, upd_same, r.mono (Evl.Ex.refl _) app_get⟩
      rw [← F.len]
      simp
/-- an object of the def's own changes -/
theorem Fr.write {k : Nat} {a : Addr} {ho : HO} {o o' : OO} (F : Fr P w K B0 H0 A0 ρ Hb H σ s) (hk : s.ce[k]? = some (some o)) (ha : ρ[k]? = some a) (r : RO P w K ρ Hb a ho o') :
    Fr P w K B0 H0 A0 ρ Hb (upd H a ho) σ { s with ce := s.ce.set k (some o') } := by
  obtain ⟨a', ho0, h1, h2, h3, h4⟩ := F.ce k o hk
  rw [ha] at h1
  cases h1
  have hm : a ∈ ρ := List.mem_of_getElem? ha
  have h00 := (F.there a hm).2
  have kl : k < s.ce.length := (List.getElem?_eq_some_iff.mp hk).1
  refine ⟨Evl.Ex.mut F.ex h2, F.b0, Evl.Ex.mut F.h0 h00, F.hid, by rw [F.len, List.length_set], F.slen, F.nd, F.anc, fun b hb => ?_, F.sl, fun j u h => ?_⟩
  · obtain ⟨⟨u, q⟩, q2⟩ := F.there b hb
    refine ⟨?_, q2⟩
    by_cases e : b = a
    · subst e
      exact ⟨ho, upd_same⟩
    · exact ⟨u, by rw [upd_ne e]; exact q⟩
  · have h : (s.ce.set k (some o'))[j]? = some (some u) := h
    by_cases hj : k = j
    · subst hj
      rw [List.getElem?_set_self kl] at h
      cases h
      exact ⟨a, ho, ha, h2, upd_same, r⟩
    · rw [List.getElem?_set_ne hj] at h
      obtain ⟨b, hu, q1, q2, q3, q4⟩ := F.ce j u h
      have hab : b ≠ a := fun z => by
        subst z
        exact hj ((List.getElem?_inj (List.getElem?_eq_some_iff.mp ha).1 F.nd).mp (ha.trans q1.symm))
      exact ⟨b, hu, q1, q2, by rw [upd_ne hab]; exact q3, q4⟩
end

/-! ### outcomes of statements -/
inductive Out where
  | nx (s : S) | bk (s : S) | ct (s : S) | ret (d : D) | exc (e : Xn) (s : S) | bad | own (s : S) (i : Nat)
def Out.seq (o : Out) (f : S → Out) : Out := match o with
  | .nx s => f s
  | o => o
def Mt (P : Program) (w : World) (K : PySem.W.Frag) (W : WX) (B0 H0 : Hp) (A0 : List Addr) (Hb : Hp) (E : Ends) : Out → Prop
  | .nx s => ∀ ρ Hb' H' σ, Ex Hb Hb' → Fr P w K B0 H0 A0 ρ Hb' H' σ s → E.nx σ H'
  | .bk s => ∀ ρ Hb' H' σ, Ex Hb Hb' → Fr P w K B0 H0 A0 ρ Hb' H' σ s → E.bk σ H'
  | .ct s => ∀ ρ Hb' H' σ, Ex Hb Hb' → Fr P w K B0 H0 A0 ρ Hb' H' σ s → E.ct σ H'
  | .ret d => ∀ v Hb' H', Ex B0 Hb' → Ex H0 H' → Ex Hb' H' → (∀ a o, B0 a = none → H0 a = some o → Hb' a = none) → R K Hb' v d → E.rt v H'
  | .exc e s => ∀ cls dd ρ Hb' H' σ, Ex Hb Hb' → Fr P w K B0 H0 A0 ρ Hb' H' σ s → XR K Hb' cls dd e → W cls dd σ H'
  | .bad => False
  | .own s i => ∀ ρ Hb' H' σ v, Ex Hb Hb' → Fr P w K B0 H0 A0 ρ Hb' H' σ s → σ[i]? = some (some v) → E.rt v H'
section
variable {P : Program} {w : World} {K : PySem.W.Frag} {W : WX} {B0 H0 Hb Hb1 : Hp} {A0 : List Addr} {E : Ends}
theorem Mt.later {o : Out} (m : Mt P w K W B0 H0 A0 Hb E o) (e : Ex Hb Hb1) : Mt P w K W B0 H0 A0 Hb1 E o := by
  cases o with
  | nx s => exact fun ρ Hb' H' σ x F => m ρ Hb' H' σ (e.trans x) F
  | bk s => exact fun ρ Hb' H' σ x F => m ρ Hb' H' σ (e.trans x) F
  | ct s => exact fun ρ Hb' H' σ x F => m ρ Hb' H' σ (e.trans x) F
  | ret d => exact m
  | exc e' s => exact fun cls dd ρ Hb' H' σ x F => m cls dd ρ Hb' H' σ (e.trans x) F
  | bad => exact m
  | own s i => exact fun ρ Hb' H' σ v x F hv => m ρ Hb' H' σ v (e.trans x) F hv
def Run (P : Program) (w : World) (K : PySem.W.Frag) (W : WX) (ts : TS) (s : S) (o : Out) : Prop :=
  ∀ B0 H0 A0 ρ Hb H σ E, Fr P w K B0 H0 A0 ρ Hb H σ s → Mt P w K W B0 H0 A0 Hb E o → ts E σ H
theorem Run.seq {t u : TS} {s : S} {o : Out} {f : S → Out} (h1 : Run P w K W t s o) (h2 : ∀ s', Run P w K W u s' (f s')) : Run P w K W (tSeq t u) s (o.seq f) := by
  intro B0 H0 A0 ρ Hb H σ E F m
  refine h1 B0 H0 A0 ρ Hb H σ _ F ?_
  cases o with
  | nx s' => exact fun ρ' Hb' H' σ' x F' => h2 s' B0 H0 A0 ρ' Hb' H' σ' E F' (Mt.later m x)
  | bk s' => exact m
  | ct s' => exact m
  | ret d => exact m
  | exc e s' => exact m
  | bad => exact m
  | own s' i => exact m
end
def sSeq (m1 m2 : S → Out) : S → Out := fun s => (m1 s).seq m2
def sNil : S → Out := fun s => .nx s
section
variable {P : Program} {w : World} {K : PySem.W.Frag} {W : WX} {t u : TS} {m1 m2 : S → Out}
/-- what a statement does, at every state -/
def Rn (P : Program) (w : World) (K : PySem.W.Frag) (W : WX) (ts : TS) (m : S → Out) : Prop := ∀ s, Run P w K W ts s (m s)
theorem rn_nil : Rn P w K W tNext sNil := fun s B0 H0 A0 ρ Hb H σ E F m => m ρ Hb H σ (Evl.Ex.refl _) F
theorem rn_seq (h1 : Rn P w K W t m1) (h2 : Rn P w K W u m2) : Rn P w K W (tSeq t u) (sSeq m1 m2) := fun s => (h1 s).seq h2
end

/-! ### expressions in statements -/
def flatD : D → Bool
  | .non => true
  | .bl _ => true
  | .int _ => true
  | .str _ => true
  | _ => false
theorem flat_R {K : PySem.W.Frag} {H H' : Hp} {v : V} {d : D} (h : R K H v d) (f : flatD d = true) : R K H' v d := by
  cases h with
  | non => exact .non
  | bl b => exact .bl b
  | int i => exact .int i
  | str x => exact .str x
  | _ => cases f
/-- what must be known behind an expression of a statement -/
def PsX (P : Program) (w : World) (K : PySem.W.Frag) (W : WX) (B0 H0 : Hp) (A0 : List Addr) (ρ : List Addr) (Hb H : Hp) (σ : L2.St) (s : S) (Q : V → Hp → Prop) : Rs Xv → Prop
  | .ok x => ∀ v Hb' H', Ex Hb Hb' → Ex H H' → Fr P w K B0 H0 A0 ρ Hb' H' σ s → RX K ρ Hb' v x → Q v H'
  | .exc e => ∀ cls dd Hb' H', Ex Hb Hb' → Fr P w K B0 H0 A0 ρ Hb' H' σ s → XR K Hb' cls dd e → W cls dd σ H'
  | .bad => False
def EvX (P : Program) (w : World) (K : PySem.W.Frag) (W : WX) (te : TE) (m : S → Rs Xv) : Prop := ∀ s B0 H0 A0 ρ Hb H σ, Fr P w K B0 H0 A0 ρ Hb H σ s → ∀ Q : VK, PsX P w K W B0 H0 A0 ρ Hb H σ s Q (m s) → te σ H Q
/-- .. of a test -/
def PsT (P : Program) (w : World) (K : PySem.W.Frag) (W : WX) (B0 H0 : Hp) (A0 : List Addr) (ρ : List Addr) (Hb H : Hp) (σ : L2.St) (s : S) (Q : Bool → Hp → Prop) : Rs Bool → Prop
  | .ok x => ∀ Hb' H', Ex Hb Hb' → Fr P w K B0 H0 A0 ρ Hb' H' σ s → Q x H'
  | .exc e => ∀ cls dd Hb' H', Ex Hb Hb' → Fr P w K B0 H0 A0 ρ Hb' H' σ s → XR K Hb' cls dd e → W cls dd σ H'
  | .bad => False
def EvT (P : Program) (w : World) (K : PySem.W.Frag) (W : WX) (tt : TT) (m : S → Rs Bool) : Prop := ∀ s B0 H0 A0 ρ Hb H σ, Fr P w K B0 H0 A0 ρ Hb H σ s → ∀ Q : Bool → Hp → Prop, PsT P w K W B0 H0 A0 ρ Hb H σ s Q (m s) → tt σ H Q
/-- .. of what is returned -/
def PsR (P : Program) (w : World) (K : PySem.W.Frag) (W : WX) (B0 H0 : Hp) (A0 : List Addr) (ρ : List Addr) (Hb : Hp) (σ : L2.St) (s : S) (Q : V → Hp → Prop) : Rs D → Prop
  | .ok d => ∀ v Hb' H', Ex B0 Hb' → Ex H0 H' → Ex Hb' H' → (∀ a o, B0 a = none → H0 a = some o → Hb' a = none) → R K Hb' v d → Q v H'
  | .exc e => ∀ cls dd Hb' H', Ex Hb Hb' → Fr P w K B0 H0 A0 ρ Hb' H' σ s → XR K Hb' cls dd e → W cls dd σ H'
  | .bad => False
def EvR (P : Program) (w : World) (K : PySem.W.Frag) (W : WX) (te : TE) (m : S → Rs D) : Prop := ∀ s B0 H0 A0 ρ Hb H σ, Fr P w K B0 H0 A0 ρ Hb H σ s → ∀ Q : VK, PsR P w K W B0 H0 A0 ρ Hb σ s Q (m s) → te σ H Q
def okX (f : D → Rs Xv) : Rs D → Rs Xv := fun r => match r with
  | .ok d => f d
  | .exc _ => .bad
  | .bad => .bad
/-- read in the base -/
def xB (m : Dv → Rs D) (s : S) : Rs Xv := (m (envB s)).bind fun d => .ok (.dat d)
/-- read through the def's own objects: a flat value -/
def xV (m : Dv → Rs D) (s : S) : Rs Xv := match m (envV s) with
  | .ok d => if flatD d = true then .ok (.dat d) else .bad
  | _ => .bad
/-- a name that holds an object of the def's own -/
def xC (i : Nat) (s : S) : Rs Xv := match s.sl[i]? with
  | some (some (.cell k)) => .ok (.cell k)
  | _ => .bad
def tBs (m : Dv → Rs Bool) (s : S) : Rs Bool := m (envB s)
def tVs (m : Dv → Rs Bool) (s : S) : Rs Bool := match m (envV s) with
  | .ok b => .ok b
  | _ => .bad
def rB (m : Dv → Rs D) (s : S) : Rs D := m (envB s)
def rV (m : Dv → Rs D) (s : S) : Rs D := match m (envV s) with
  | .ok b => .ok b
  | _ => .bad
section
variable {P : Program} {w : World} {K : PySem.W.Frag} {W : WX} {B0 H0 Hb H : Hp} {A0 : List Addr} {ρ : List Addr} {σ : L2.St} {s : S} {te : TE} {tt : TT} {m : Dv → Rs D} {c : Dv → Rs Bool}
theorem hidV (F : Fr P w K B0 H0 A0 ρ Hb H σ s) {a : Addr} {o : HO} (h1 : B0 a = none) (h2 : H0 a = some o) : heapV ρ Hb H a = none :=
  heapV_none (F.hid a o h1 h2) fun hm => by
    rw [(F.there a hm).2] at h2
    cases h2
theorem xp_B (h : ∀ δ, EvD K W te δ (m δ)) : EvX P w K W te (xB m) := by
  intro s B0 H0 A0 ρ Hb H σ F Q p
  refine h (envB s) Hb H σ F.envB Q ?_
  unfold xB at p
  cases e : m (envB s) with
  | ok d =>
    rw [e] at p
    exact fun v Hb' H' g r => p v Hb' H' g.1 g.2.1 (F.gw g) r
  | exc x =>
    rw [e] at p
    exact fun cls dd Hb' H' g x => p cls dd Hb' H' g.1 (F.gw g) x
  | bad =>
    rw [e] at p
    exact p
theorem xp_V (h : ∀ δ, EvD K W te δ (m δ)) : EvX P w K W te (xV m) := by
  intro s B0 H0 A0 ρ Hb H σ F Q p
  refine h (envV s) (heapV ρ Hb H) H σ F.envV Q ?_
  unfold xV at p
  cases e : m (envV s) with
  | ok d =>
    rw [e] at p
    dsimp only at p
    split at p
    · rename_i hf
      exact fun v Hb' H' g r => p v Hb H' (Evl.Ex.refl _) g.2.1 (F.grow g.2.1) (flat_R r hf)
    · exact p.elim
  | exc x =>
    rw [e] at p
    exact p.elim
  | bad =>
    rw [e] at p
    exact p
theorem xp_C (i : Nat) : EvX P w K W (tVar i) (xC i) := by
  intro s B0 H0 A0 ρ Hb H σ F Q p
  unfold xC at p
  split at p
  · rename_i k e
    obtain ⟨v, h1, h2⟩ := F.sl i _ e
    exact ⟨v, h1, p v Hb H (Evl.Ex.refl _) (Evl.Ex.refl _) F h2⟩
  · exact p.elim
theorem xt_B (h : ∀ δ, EvB K W tt δ (c δ)) : EvT P w K W tt (tBs c) := by
  intro s B0 H0 A0 ρ Hb H σ F Q p
  refine h (envB s) Hb H σ F.envB Q ?_
  unfold tBs at p
  cases e : c (envB s) with
  | ok d =>
    rw [e] at p
    intro v Hb' H' g r
    cases r
    exact p Hb' H' g.1 (F.gw g)
  | exc x =>
    rw [e] at p
    exact fun cls dd Hb' H' g x => p cls dd Hb' H' g.1 (F.gw g) x
  | bad =>
    rw [e] at p
    exact p
theorem xt_V (h : ∀ δ, EvB K W tt δ (c δ)) : EvT P w K W tt (tVs c) := by
  intro s B0 H0 A0 ρ Hb H σ F Q p
  refine h (envV s) (heapV ρ Hb H) H σ F.envV Q ?_
  unfold tVs at p
  cases e : c (envV s) with
  | ok d =>
    rw [e] at p
    intro v Hb' H' g r
    cases r
    exact p Hb H' (Evl.Ex.refl _) (F.grow g.2.1)
  | exc x =>
    rw [e] at p
    exact p.elim
  | bad =>
    rw [e] at p
    exact p
theorem xr_B (h : ∀ δ, EvD K W te δ (m δ)) : EvR P w K W te (rB m) := by
  intro s B0 H0 A0 ρ Hb H σ F Q p
  refine h (envB s) Hb H σ F.envB Q ?_
  unfold rB at p
  cases e : m (envB s) with
  | ok d =>
    rw [e] at p
    exact fun v Hb' H' g r => p v Hb' H' (F.b0.trans g.1) (F.h0.trans g.2.1) g.2.2.1 (F.gw g).hid r
  | exc x =>
    rw [e] at p
    exact fun cls dd Hb' H' g x => p cls dd Hb' H' g.1 (F.gw g) x
  | bad =>
    rw [e] at p
    exact p
theorem xr_V (h : ∀ δ, EvD K W te δ (m δ)) : EvR P w K W te (rV m) := by
  intro s B0 H0 A0 ρ Hb H σ F Q p
  refine h (envV s) (heapV ρ Hb H) H σ F.envV Q ?_
  unfold rV at p
  cases e : m (envV s) with
  | ok d =>
    rw [e] at p
    exact fun v Hb' H' g r => p v Hb' H' ((F.b0.trans heapV_ex).trans g.1) (F.h0.trans g.2.1) g.2.2.1 (fun a o h1 h2 => g.2.2.2 a o (hidV F h1 h2) (F.h0 a o h2)) r
  | exc x =>
    rw [e] at p
    exact p.elim
  | bad =>
    rw [e] at p
    exact p
end

/-! ### statements -/
/-- an outcome of an expression, then .. -/
def oX {α : Type} (s : S) (r : Rs α) (f : α → Out) : Out := match r with
  | .ok a => f a
  | .exc e => .exc e s
  | .bad => .bad
def S.put (s : S) (i : Nat) (x : Xv) : S := { s with sl := s.sl.set i (some x) }
def sSet (i : Nat) (m : S → Rs Xv) (s : S) : Out := oX s (m s) fun x => .nx (s.put i x)
def sDrop (m : S → Rs Xv) (s : S) : Out := oX s (m s) fun _ => .nx s
def sIf (c : S → Rs Bool) (a b : S → Out) (s : S) : Out := oX s (c s) fun k => if k = true then a s else b s
def sRet (m : S → Rs D) (s : S) : Out := oX s (m s) .ret
section
variable {P : Program} {w : World} {K : PySem.W.Frag} {W : WX} {te : TE} {tt : TT} {t u : TS}
theorem rn_set {m : S → Rs Xv} {i : Nat} (h : EvX P w K W te m) : Rn P w K W (tAsg te (gName i)) (sSet i m) := by
  intro s B0 H0 A0 ρ Hb H σ E F q
  refine h s B0 H0 A0 ρ Hb H σ F _ ?_
  unfold sSet oX at q
  cases e : m s with
  | ok x =>
    rw [e] at q
    exact fun v Hb' H' g _ F' r => q ρ Hb' H' _ g (F'.set r)
  | exc x =>
    rw [e] at q
    exact fun cls dd Hb' H' g F' x => q cls dd ρ Hb' H' σ g F' x
  | bad =>
    rw [e] at q
    exact q
theorem rn_drop {m : S → Rs Xv} (h : EvX P w K W te m) : Rn P w K W (tDrop te) (sDrop m) := by
  intro s B0 H0 A0 ρ Hb H σ E F q
  refine h s B0 H0 A0 ρ Hb H σ F _ ?_
  unfold sDrop oX at q
  cases e : m s with
  | ok x =>
    rw [e] at q
    exact fun v Hb' H' g _ F' r => q ρ Hb' H' _ g F'
  | exc x =>
    rw [e] at q
    exact fun cls dd Hb' H' g F' x => q cls dd ρ Hb' H' σ g F' x
  | bad =>
    rw [e] at q
    exact q
theorem rn_if {c : S → Rs Bool} {a b : S → Out} (h : EvT P w K W tt c) (ha : Rn P w K W t a) (hb : Rn P w K W u b) : Rn P w K W (tIfS tt t u) (sIf c a b) := by
  intro s B0 H0 A0 ρ Hb H σ E F q
  refine h s B0 H0 A0 ρ Hb H σ F _ ?_
  unfold sIf oX at q
  cases e : c s with
  | ok x =>
    rw [e] at q
    intro Hb' H' g F'
    cases x with
    | true => exact iteT (ha s B0 H0 A0 ρ Hb' H' σ E F' (Mt.later q g))
    | false => exact iteF (hb s B0 H0 A0 ρ Hb' H' σ E F' (Mt.later q g))
  | exc x =>
    rw [e] at q
    exact fun cls dd Hb' H' g F' x => q cls dd ρ Hb' H' σ g F' x
  | bad =>
    rw [e] at q
    exact q
theorem rn_ret {m : S → Rs D} (h : EvR P w K W te m) : Rn P w K W (tRet te) (sRet m) := by
  intro s B0 H0 A0 ρ Hb H σ E F q
  refine h s B0 H0 A0 ρ Hb H σ F _ ?_
  unfold sRet oX at q
  cases e : m s with
  | ok x =>
    rw [e] at q
    exact q
  | exc x =>
    rw [e] at q
    exact fun cls dd Hb' H' g F' x => q cls dd ρ Hb' H' σ g F' x
  | bad =>
    rw [e] at q
    exact q
theorem rn_retN : Rn P w K W tRetN (fun _ => .ret .non) := by
  intro s B0 H0 A0 ρ Hb H σ E F q
  exact q .non Hb H F.b0 F.h0 F.ex F.hid .non
/-- an object of the def's own is handed out for good -/
def sRetC (i : Nat) (s : S) : Out := match s.sl[i]? with
  | some (some _) => .own s i
  | _ => .bad
theorem rn_retC (i : Nat) : Rn P w K W (tRet (tVar i)) (sRetC i) := by
  intro s B0 H0 A0 ρ Hb H σ E F q
  unfold sRetC at q
  split at q
  · rename_i x h
    obtain ⟨v, h1, h2⟩ := F.sl i x h
    exact ⟨v, h1, q ρ Hb H σ v (Evl.Ex.refl _) F h1⟩
  · exact q.elim
theorem rn_break : Rn P w K W tBreak (fun s => .bk s) := fun s B0 H0 A0 ρ Hb H σ E F q => q ρ Hb H σ (Evl.Ex.refl _) F
theorem rn_cont : Rn P w K W tCont (fun s => .ct s) := fun s B0 H0 A0 ρ Hb H σ E F q => q ρ Hb H σ (Evl.Ex.refl _) F
/-- never reached -/
theorem rn_never : Rn P w K W tNever (fun _ => .bad) := fun s B0 H0 A0 ρ Hb H σ E F q => q.elim
/-! #### a new object of the def's own -/
def noO : NO → OO
  | .lst xs => .lst (xs.map .dat)
  | .dic kvs => .dic (kvs.map fun p => (p.1, .dat p.2))
  | .kset ks => .kset ks
def sNew (i : Nat) (m : S → Rs NO) (s : S) : Out := oX s (m s) fun o => .nx { sl := s.sl.set i (some (.cell s.ce.length)), ce := s.ce ++ [some (noO o)] }
def nB (m : Dv → Rs NO) (s : S) : Rs NO := m (envB s)
theorem RA.dat {Hb : Hp} {ρ : List Addr} : ∀ {vs : List V} {ds : List D}, RA K Hb vs ds → RXs K ρ Hb vs (ds.map Xv.dat)
  | _, _, .nil => .nil
  | _, _, .cons r rs => .cons r (RA.dat rs)
theorem RK.dat {Hb : Hp} {ρ : List Addr} : ∀ {vs : List (Key × V)} {ds : List (Key × D)}, RK K Hb vs ds → RXk K ρ Hb vs (ds.map fun p => (p.1, Xv.dat p.2))
  | _, _, .nil => .nil
  | _, _, .cons r rs => .cons ⟨rfl, r⟩ (RK.dat rs)
theorem RN.ro {Hb : Hp} {ρ : List Addr} {a : Addr} {ho : HO} {o : NO} (h : RN P w K Hb a ho o) : RO P w K ρ Hb a ho (noO o) := by
  cases o with
  | lst xs =>
    obtain ⟨vs, h1, h2⟩ := h
    exact ⟨vs, h1, h2.dat⟩
  | dic xs =>
    obtain ⟨vs, h1, h2⟩ := h
    exact ⟨vs, h1, h2.dat⟩
  | kset ks => exact h
theorem Fr.adopt {B0 H0 Hb H Hb1 H1 : Hp} {A0 : List Addr} {ρ : List Addr} {σ : L2.St} {s : S} {p : Addr} {ho : HO} {o : OO} (F : Fr P w K B0 H0 A0 ρ Hb H σ s) (g : Gw Hb H Hb1 H1) (hp : H p = none) (hb : Hb1 p = none) (h1 : H1 p = some ho) (r : RO P w K ρ Hb1 p ho o) :
    Fr P w K B0 H0 A0 (ρ ++ [p]) Hb1 H1 σ { s with ce := s.ce ++ [some o] } := by
  have G := F.gw g
  have hn : p ∉ ρ := notIn_of_none (fun a h => (F.there a h).1) hp
  refine ⟨G.ex, G.b0, G.h0, G.hid, by simp [F.len], G.slen, ?_, (fun a h => head_app (F.anc a h)), fun a ha => ?_, fun i x h => ?_, fun k u h => ?_⟩
  · rw [List.nodup_append]
    refine ⟨G.nd, by simp, fun a ha b hb => ?_⟩
    have : b = p := by simpa using hb
    subst this
    intro z
    subst z
    exact hn ha
  · rcases List.mem_append.mp ha with h | h
    · exact G.there a h
    · have : a = p := by simpa using h
      subst this
      exact ⟨⟨ho, h1⟩, fresh_back F.h0 hp⟩
  · obtain ⟨v, q1, q2⟩ := G.sl i x h
    exact ⟨v, q1, q2.mono (Evl.Ex.refl _) app_get⟩
  · have h : (s.ce ++ [some o])[k]? = some (some u) := h
    by_cases hk : k < s.ce.length
    · rw [List.getElem?_append_left hk] at h
      obtain ⟨a, hu, q1, q2, q3, q4⟩ := G.ce k u h
      exact ⟨a, hu, app_get k a q1, q2, q3, q4.mono (Evl.Ex.refl _) app_get⟩
    · rw [List.getElem?_append_right (by omega)] at h
      have hk0 : k = s.ce.length := by
        have := (List.getElem?_eq_some_iff.mp h).1
        simp at this
        omega
      subst hk0
      have eo : o = u := by simpa using h
      subst eo
      refine ⟨p, ho, ?_, hb, h1, r.mono (Evl.Ex.refl _) app_get⟩
      rw [← F.len]
      simp
theorem rn_new {m : Dv → Rs NO} {i : Nat} (h : ∀ δ, EvN P w K W te δ (m δ)) : Rn P w K W (tAsg te (gName i)) (sNew i (nB m)) := by
  intro s B0 H0 A0 ρ Hb H σ E F q
  refine h (envB s) Hb H σ F.envB _ ?_
  unfold sNew nB oX at q
  cases e : m (envB s) with
  | ok x =>
    rw [e] at q
    intro p ho Hb' H' g h1 h2 h3 r
    have F2 := F.adopt g h1 h2 h3 (r.ro (ρ := ρ))
    refine q _ Hb' H' _ g.1 (F2.set (i := i) (v := .ref p) (x := .cell s.ce.length) ⟨p, ?_, rfl⟩)
    rw [← F.len]
    simp
  | exc x =>
    rw [e] at q
    exact fun cls dd Hb' H' g x => q cls dd ρ Hb' H' σ g.1 (F.gw g) x
  | bad =>
    rw [e] at q
    exact q
/-- .. taken as data -/
theorem ev_new {m : Rs NO} {δ : Dv} (h : EvN P w K W te δ m) : EvD K W te δ (m.bind noD) := by
  intro Hx H σ env Q p
  refine h Hx H σ env Q ?_
  cases m with
  | ok o =>
    intro q ho Hx' H' g h1 h2 h3 r
    have gg := Gw.adopt env.ex g h1 h3
    have e2 : Ex Hx' (upd Hx' q ho) := Evl.Ex.new h2
    cases o with
    | lst xs =>
      obtain ⟨vs, rfl, r⟩ := r
      exact p _ _ _ gg (.lst upd_same (r.mono e2))
    | dic xs =>
      obtain ⟨vs, rfl, r⟩ := r
      exact p _ _ _ gg (.dic upd_same (r.mono e2))
    | kset ks => exact p.elim
  | exc x => exact p
  | bad => exact p
end
end DL
set_option Elab.async false
set_option linter.all false
set_option maxRecDepth 100000
set_option maxHeartbeats 4000000
/-! The data layer, 3: what is walked, loops, comprehensions, defs. -/
namespace DL
open PySem PySem.Spec PyProof.Rows L2
open Evl (Ex ex_l ex_t fresh_back)
set_option autoImplicit false

/-! ### what is walked -/
/-- at turn i it yields the i-th of ds -/
def Yd (K : PySem.W.Frag) (Y : Nat → Hp → V → Hp → Prop) (Hx0 : Hp) (ds : List D) : Prop :=
  ∀ i Hq x Hq' Hy, i < ds.length → Ex Hx0 Hy → Ex Hy Hq → Y i Hq x Hq' → ∃ d Hy', ds[i]? = some d ∧ Gw Hy Hq Hy' Hq' ∧ R K Hy' x d
def PsI (K : PySem.W.Frag) (W : WX) (σ : L2.St) (Hx H : Hp) (Rr : It → Hp → Prop) : Rs (List D) → Prop
  | .ok ds => ∀ J G Y Hx' H', Gw Hx H Hx' H' → Walk J ds.length G Y → (∀ H2, Ex Hx' H2 → G H2) → Yd K Y Hx' ds → Rr J H'
  | .exc e => ∀ cls dd Hx' H', Gw Hx H Hx' H' → XR K Hx' cls dd e → W cls dd σ H'
  | .bad => False
def EvI (K : PySem.W.Frag) (W : WX) (wi : TI) (δ : Dv) (r : Rs (List D)) : Prop := ∀ Hx H σ, EnvR K Hx H σ δ → ∀ Rr : It → Hp → Prop, PsI K W σ Hx H Rr r → wi σ H Rr
theorem PsI.ofO {K : PySem.W.Frag} {W : WX} {σ : L2.St} {Hx H : Hp} {Rr : It → Hp → Prop} {o : Option (List D)} (p : PsI K W σ Hx H Rr (DL.ofO o)) : ∃ ds, o = some ds ∧ ∀ J G Y Hx' H', Gw Hx H Hx' H' → Walk J ds.length G Y → (∀ H2, Ex Hx' H2 → G H2) → Yd K Y Hx' ds → Rr J H' := by
  cases o with
  | none => exact p.elim
  | some z => exact ⟨z, rfl, p⟩
theorem PsI.later {K : PySem.W.Frag} {W : WX} {σ : L2.St} {Hx H Hx1 H1 : Hp} {Rr : It → Hp → Prop} {r : Rs (List D)} (p : PsI K W σ Hx H Rr r) (g : Gw Hx H Hx1 H1) : PsI K W σ Hx1 H1 Rr r := by
  cases r with
  | ok d => exact fun J G Y Hx' H' g' => p J G Y Hx' H' (g.trans g')
  | exc e => exact fun c dd Hx' H' g' x => p c dd Hx' H' (g.trans g') x
  | bad => exact p
theorem PsI.seq {α β : Type} {K : PySem.W.Frag} {W : WX} {σ : L2.St} {Hx H : Hp} {Rr : It → Hp → Prop} {Rel2 : Hp → β → α → Prop} {Q2 : β → Hp → Prop} {r : Rs α} {f : α → Rs (List D)} (p : PsI K W σ Hx H Rr (r.bind f)) :
    (∀ v H1, (∃ Hx1 d, Gw Hx H Hx1 H1 ∧ Rel2 Hx1 v d ∧ PsI K W σ Hx1 H1 Rr (f d)) → Q2 v H1) → Pst Rel2 K W σ Hx H Q2 r := by
  intro k
  cases r with
  | ok d => exact fun v Hx' H' g rv => k v H' ⟨Hx', d, g, rv, p.later g⟩
  | exc e => exact p
  | bad => exact p
section
variable {K : PySem.W.Frag} {W : WX} {δ : Dv}
theorem yd_at {xs : List V} {ds : List D} {Hx : Hp} (r : RA K Hx xs ds) : Yd K (YAt xs) Hx ds := by
  intro i Hq x Hq' Hy hi e1 e2 y
  obtain ⟨rfl, hx⟩ := y
  obtain ⟨d, h1, h2⟩ := r.getV hx
  exact ⟨d, Hy, h1, .refl e2, h2.mono e1⟩
/-- a pair of the i-th of two lists, new -/
theorem yd_pair {xs ys : Nat → Option V} {ds : List D} {es : Nat → D} {Hx : Hp} (h : ∀ i x y, i < ds.length → xs i = some x → ys i = some y → ∃ d e, ds[i]? = some (.tup [d, e]) ∧ R K Hx x d ∧ R K Hx y e) : Yd K (YPair xs ys) Hx ds := by
  intro i Hq v Hq' Hy hi e1 e2 y
  obtain ⟨T, x, z, rfl, hT, rfl, hx, hz⟩ := y
  obtain ⟨d, e, h1, h2, h3⟩ := h i x z hi hx hz
  have g : Gw Hy Hq (upd Hy T (.tup [x, z])) (upd Hq T (.tup [x, z])) := Gw.new e2 hT
  exact ⟨_, _, h1, g, .tup (SqT.of upd_same) (.cons ((h2.mono e1).mono g.1) (.cons ((h3.mono e1).mono g.1) .nil))⟩
/-- a list, a tuple, a text -/
def iAny (K : PySem.W.Frag) (tl : TE) : TI := fun σ H Rr => tl σ H fun x H1 => (∃ a, x = .ref a ∧ (∃ xs, SqL K H1 a xs) ∧ Rr (Itl K a) H1) ∨ (∃ a, x = .ref a ∧ (∃ xs, SqT K H1 a xs) ∧ Rr (Itt K a) H1) ∨ ∃ z, x = .str z ∧ Rr (Its z) H1
theorem pi_any {X : Cx} {tg l : Expr} {tl : TE} (hl : PE X l tl) : PI X tg l (iAny X.K tl) := by
  refine ⟨fun pins s σ H Rr I h => ?_⟩
  refine thn (hl.run pins s σ H _ I h) fun v s1 ⟨x, H1, I1, r1, q1⟩ => ?_
  rcases q1 with ⟨a, e, ⟨xs, hq⟩, q⟩ | ⟨a, e, ⟨xs, hq⟩, q⟩ | ⟨z, e, q⟩
  · subst e
    cases r1
    obtain ⟨its, rv, p, hz⟩ := I1.list hq
    refine wpAny_pyIter_list p.isList ?_
    refine ⟨s1.heap.objs.size, [s1.heap.objs.size], _, _, H1, rfl, I1.kept (t' := s1.toks) fun b o e => Heap.get?_push_of_some _ e, turn_list a _, ⟨_, Heap.get?_push_size _ rfl, rfl, rfl⟩, fun b hb => ?_, q⟩
    have e : b = s1.heap.objs.size := by simpa using hb
    subst e
    exact I1.fpOk (Nat.le_refl _) (I1.hok.fresh (Nat.le_refl _))
  · subst e
    cases r1
    obtain ⟨its, rv, p, hz⟩ := I1.tuple hq
    refine wpAny_pyIter_tuple (show s1.heap.IsTuple a its.toArray from p) ?_
    refine ⟨s1.heap.objs.size, [s1.heap.objs.size], _, _, H1, rfl, I1.kept (t' := s1.toks) fun b o e => Heap.get?_push_of_some _ e, turn_tuple a _, ⟨_, Heap.get?_push_size _ rfl, rfl, rfl⟩, fun b hb => ?_, q⟩
    have e : b = s1.heap.objs.size := by simpa using hb
    subst e
    exact I1.fpOk (Nat.le_refl _) (I1.hok.fresh (Nat.le_refl _))
  · subst e
    obtain ⟨t, rfl⟩ := r1
    cases ha : z.cps.all (· < 128)
    · exact wpAny_pyIter_wide ha (pi_one (tk := s1.toks) I1 _ (turn_str _ z t "str_iterator" (.inr rfl)) ⟨_, Heap.get?_push_size _ rfl, rfl, rfl⟩ q)
    · exact wpAny_pyIter_ascii ha (pi_one (tk := s1.toks) I1 _ (turn_str _ z t "str_ascii_iterator" (.inl rfl)) ⟨_, Heap.get?_push_size _ rfl, rfl, rfl⟩ q)
def sign (c : Nat) : D := .str ⟨#[c]⟩
def itemsD : D → Option (List D)
  | .lst xs => some xs
  | .tup xs => some xs
  | .str z => some (z.cps.toList.map sign)
  | .sq ns => some (ns.map .int)
  | _ => none
def iItems (r : Rs D) : Rs (List D) := r.bind fun d => ofO (itemsD d)
theorem ev_any {tl : TE} {r : Rs D} (h : EvD K W tl δ r) : EvI K W (iAny K tl) δ (iItems r) := by
  intro Hx H σ env Rr p
  refine h Hx H σ env _ (p.seq ?_)
  rintro x H1 ⟨Hx1, d, g, rv, p⟩
  obtain ⟨ds, hd, p⟩ := p.ofO
  have e := g.2.2.1
  cases rv with
  | lst h1 h2 =>
    cases hd
    exact .inl ⟨_, rfl, ⟨_, SqL.of (e _ _ h1)⟩, p _ _ _ Hx1 H1 (.refl e) (h2.length ▸ walk_list) (fun H2 e2 => SqL.of (e2 _ _ h1)) (yd_at h2)⟩
  | tup h1 h2 =>
    cases hd
    exact .inr (.inl ⟨_, rfl, ⟨_, ex_t e h1⟩, p _ _ _ Hx1 H1 (.refl e) (h2.length ▸ walk_tup) (fun H2 e2 => ex_t e2 h1) (yd_at h2)⟩)
  | str z =>
    cases hd
    refine .inr (.inr ⟨_, rfl, p _ _ _ Hx1 H1 (.refl e) ((show z.cps.size = (z.cps.toList.map sign).length by simp) ▸ walk_str) (fun H2 e2 => trivial) ?_⟩)
    intro i Hq x Hq' Hy hi e1 e2 y
    obtain ⟨rfl, c, hc, rfl⟩ := y
    exact ⟨sign c, Hy, by simp [hc], .refl e2, .str _⟩
  | @sq a ns h1 =>
    cases hd
    exact .inl ⟨_, rfl, ⟨_, ex_l e h1⟩, p _ _ _ Hx1 H1 (.refl e) ((show (ns.map V.int).length = (ns.map D.int).length by simp) ▸ walk_list) (fun H2 e2 => ex_l e2 h1) (yd_at (.ofInts _))⟩
  | _ => cases hd
def rgOk (i : Int) : Bool := decide (-(2 ^ 62) ≤ i) && decide (i < 2 ^ 62)
theorem rgOk_of {i : Int} (h : rgOk i = true) : -(2 ^ 62) ≤ i ∧ i < 2 ^ 62 := by
  unfold rgOk at h
  simp only [Bool.and_eq_true, decide_eq_true_eq] at h
  exact h
def upTo (lo : Int) (n : Nat) : List D := (List.range n).map fun i => .int (lo + (i : Nat))
def rng1 : List D → Option (List D)
  | [.int j] => if rgOk j = true then some (upTo 0 j.toNat) else none
  | _ => none
def rng2 : List D → Option (List D)
  | [.int i, .int j] => if (rgOk i && rgOk j) = true then some (upTo i (j - i).toNat) else none
  | _ => none
theorem yd_up {lo : Int} {n : Nat} {Hx : Hp} : Yd K (YFn fun i => .int (lo + i)) Hx (upTo lo n) := by
  intro i Hq x Hq' Hy hi e1 e2 y
  obtain ⟨rfl, rfl⟩ := y
  refine ⟨_, Hy, ?_, .refl e2, .int _⟩
  unfold upTo at hi ⊢
  simp at hi
  simp [hi]
theorem upTo_len {lo : Int} {n : Nat} : n = (upTo lo n).length := by simp [upTo]
def iRg (f : List D → Option (List D)) (as : Rs (List D)) : Rs (List D) := as.bind fun xs => ofO (f xs)
theorem ev_rng1 {ta : TA} {as : Rs (List D)} (h : EvA K W ta δ as) : EvI K W (iRng1 ta) δ (iRg rng1 as) := by
  intro Hx H σ env Rr p
  refine h Hx H σ env _ (p.seq ?_)
  rintro xs H1 ⟨Hx1, d, g, rv, p⟩
  obtain ⟨ds, hd, p⟩ := p.ofO
  unfold rng1 at hd
  split at hd
  · split at hd
    · rename_i j hj
      cases hd
      obtain ⟨h1, h2⟩ := rgOk_of hj
      cases rv with
      | cons r rs =>
        cases r
        cases rs
        exact ⟨j, rfl, h1, h2, p _ _ _ Hx1 H1 (.refl g.2.2.1) (upTo_len ▸ walk_range) (fun _ _ => trivial) yd_up⟩
    · cases hd
  · cases hd
theorem ev_rng2 {ta : TA} {as : Rs (List D)} (h : EvA K W ta δ as) : EvI K W (iRng2 ta) δ (iRg rng2 as) := by
  intro Hx H σ env Rr p
  refine h Hx H σ env _ (p.seq ?_)
  rintro xs H1 ⟨Hx1, d, g, rv, p⟩
  obtain ⟨ds, hd, p⟩ := p.ofO
  unfold rng2 at hd
  split at hd
  · split at hd
    · rename_i i j hj
      cases hd
      simp only [Bool.and_eq_true] at hj
      obtain ⟨h1, h2⟩ := rgOk_of hj.1
      obtain ⟨h3, h4⟩ := rgOk_of hj.2
      cases rv with
      | cons r rs =>
        cases r
        cases rs with
        | cons r rs =>
          cases r
          cases rs
          exact ⟨i, j, rfl, ⟨h1, h2, h3, h4⟩, p _ _ _ Hx1 H1 (.refl g.2.2.1) (upTo_len ▸ walk_range) (fun _ _ => trivial) yd_up⟩
    · cases hd
  · cases hd
end

/-! ### targets -/
/-- a target of a statement -/
def GtR (P : Program) (w : World) (K : PySem.W.Frag) (g : TG) (f : D → S → Option S) : Prop := ∀ s B0 H0 A0 ρ Hb H σ v d s' (Q : L2.St → Hp → Prop), Fr P w K B0 H0 A0 ρ Hb H σ s → R K Hb v d → f d s = some s' →
  (∀ σ', Fr P w K B0 H0 A0 ρ Hb H σ' s' → Q σ' H) → g v σ H Q
def GtsR (P : Program) (w : World) (K : PySem.W.Frag) (g : TGs) (f : List D → S → Option S) : Prop := ∀ s B0 H0 A0 ρ Hb H σ v d s' (Q : L2.St → Hp → Prop), Fr P w K B0 H0 A0 ρ Hb H σ s → RA K Hb v d → f d s = some s' →
  (∀ σ', Fr P w K B0 H0 A0 ρ Hb H σ' s' → Q σ' H) → g v σ H Q
section
variable {P : Program} {w : World} {K : PySem.W.Frag} {W : WX}
def gN (i : Nat) (d : D) (s : S) : Option S := some (s.put i (.dat d))
theorem gt_name (i : Nat) : GtR P w K (gName i) (gN i) := by
  intro s B0 H0 A0 ρ Hb H σ v d s' Q F r e q
  cases e
  exact q _ (F.set r)
def gsNil (ds : List D) (s : S) : Option S := match ds with
  | [] => some s
  | _ => none
def gsCons (f : D → S → Option S) (fs : List D → S → Option S) (ds : List D) (s : S) : Option S := match ds with
  | d :: ds => (f d s).bind (fs ds)
  | _ => none
theorem gts_nil : GtsR P w K gNil gsNil := by
  intro s B0 H0 A0 ρ Hb H σ v d s' Q F r e q
  cases r with
  | nil =>
    cases e
    exact ⟨rfl, q _ F⟩
  | cons _ _ => cases e
theorem gts_cons {t : TG} {u : TGs} {f : D → S → Option S} {fs : List D → S → Option S} (h1 : GtR P w K t f) (h2 : GtsR P w K u fs) : GtsR P w K (gCons t u) (gsCons f fs) := by
  intro s B0 H0 A0 ρ Hb H σ v d s' Q F r e q
  cases r with
  | nil => cases e
  | @cons v vs d ds r rs =>
    have e : (f d s).bind (fs ds) = some s' := e
    cases hf : f d s with
    | none =>
      rw [hf] at e
      cases e
    | some s1 =>
      rw [hf] at e
      exact ⟨v, vs, rfl, h1 s B0 H0 A0 ρ Hb H σ v d s1 _ F r hf fun σ' F' => h2 s1 B0 H0 A0 ρ Hb H σ' vs ds s' Q F' rs e q⟩
/-- a tuple (a list) is unpacked -/
def gTupD (n : Nat) (fs : List D → S → Option S) (d : D) (s : S) : Option S := match d with
  | .tup ds => if ds.length = n then fs ds s else none
  | _ => none
def gLstD (n : Nat) (fs : List D → S → Option S) (d : D) (s : S) : Option S := match d with
  | .lst ds => if ds.length = n then fs ds s else none
  | _ => none
theorem gt_tup {n : Nat} {t : TGs} {fs : List D → S → Option S} (h : GtsR P w K t fs) : GtR P w K (gTup K n t) (gTupD n fs) := by
  intro s B0 H0 A0 ρ Hb H σ v d s' Q F r e q
  cases r with
  | tup h1 h2 =>
    have e : (if _ = n then _ else none) = some s' := e
    split at e
    · rename_i hn
      exact ⟨_, _, rfl, ex_t F.ex h1, h2.length.trans hn, h s B0 H0 A0 ρ Hb H σ _ _ s' Q F h2 e q⟩
    · cases e
  | _ => cases e
theorem gt_lst {n : Nat} {t : TGs} {fs : List D → S → Option S} (h : GtsR P w K t fs) : GtR P w K (gUnl K n t) (gLstD n fs) := by
  intro s B0 H0 A0 ρ Hb H σ v d s' Q F r e q
  cases r with
  | lst h1 h2 =>
    have e : (if _ = n then _ else none) = some s' := e
    split at e
    · rename_i hn
      exact ⟨_, _, rfl, SqL.of (F.ex _ _ h1), h2.length.trans hn, h s B0 H0 A0 ρ Hb H σ _ _ s' Q F h2 e q⟩
    · cases e
  | _ => cases e
def sAsg (f : D → S → Option S) (m : Dv → Rs D) (s : S) : Out := oX s (m (envB s)) fun d => match f d s with
  | some s' => .nx s'
  | none => .bad
theorem rn_asg {te : TE} {g : TG} {f : D → S → Option S} {m : Dv → Rs D} (h : ∀ δ, EvD K W te δ (m δ)) (hg : GtR P w K g f) : Rn P w K W (tAsg te g) (sAsg f m) := by
  intro s B0 H0 A0 ρ Hb H σ E F q
  refine h (envB s) Hb H σ F.envB _ ?_
  unfold sAsg oX at q
  cases e : m (envB s) with
  | ok d =>
    rw [e] at q
    intro v Hb' H' gw r
    dsimp only at q
    split at q
    · rename_i s' hs
      exact hg s B0 H0 A0 ρ Hb' H' σ v d s' _ (F.gw gw) r hs fun σ' F' => q ρ Hb' H' σ' gw.1 F'
    · exact q.elim
  | exc x =>
    rw [e] at q
    exact fun cls dd Hb' H' g x => q cls dd ρ Hb' H' σ g.1 (F.gw g) x
  | bad =>
    rw [e] at q
    exact q

/-! ### loops -/
def forL (f : D → S → Option S) (body : S → Out) : List D → S → Out
  | [], s => .nx s
  | d :: ds, s => match f d s with
    | some s1 => match body s1 with
      | .nx s2 => forL f body ds s2
      | .ct s2 => forL f body ds s2
      | .bk s2 => .nx s2
      | o => o
    | none => .bad
def sFor (it : Dv → Rs (List D)) (f : D → S → Option S) (body : S → Out) (s : S) : Out := oX s (it (envB s)) fun ds => forL f body ds s
theorem rn_for {wi : TI} {g : TG} {tb : TS} {it : Dv → Rs (List D)} {f : D → S → Option S} {body : S → Out} (hi : ∀ δ, EvI K W wi δ (it δ)) (hg : GtR P w K g f) (hb : Rn P w K W tb body) : Rn P w K W (tFor wi g tb) (sFor it f body) := by
  intro s B0 H0 A0 ρ Hb H σ E F q
  refine hi (envB s) Hb H σ F.envB _ ?_
  unfold sFor oX at q
  cases e : it (envB s) with
  | exc x =>
    rw [e] at q
    exact fun cls dd Hb' H' g x => q cls dd ρ Hb' H' σ g.1 (F.gw g) x
  | bad =>
    rw [e] at q
    exact q
  | ok ds =>
    rw [e] at q
    intro J G Y Hb1 H1 gw wk hG yd
    refine for_it wk (fun i σ' H' => ∃ ρ' Hb' s', Ex Hb1 Hb' ∧ Fr P w K B0 H0 A0 ρ' Hb' H' σ' s' ∧ Mt P w K W B0 H0 A0 Hb' E (forL f body (ds.drop i) s'))
      ⟨ρ, Hb1, s, .refl _, F.gw gw, Mt.later q gw.1⟩ (fun i σ' H' _ ⟨ρ', Hb', s', h1, h2, h3⟩ => hG H' (h1.trans h2.ex)) ?_ ?_
    · rintro i x σ' H' H2 hi2 ⟨ρ', Hb', s', h1, h2, h3⟩ hy
      obtain ⟨d, Hb2, hd, g2, rx⟩ := yd i H' x H2 Hb' hi2 h1 h2.ex hy
      have ed : ds.drop i = d :: ds.drop (i + 1) := by
        rw [List.getElem?_eq_getElem hi2] at hd
        rw [List.drop_eq_getElem_cons hi2, Option.some.inj hd]
      rw [ed] at h3
      unfold forL at h3
      have F2 := h2.gw g2
      have h3 := Mt.later h3 g2.1
      split at h3
      · rename_i s1 hs1
        refine hg s' B0 H0 A0 ρ' Hb2 H2 σ' x d s1 _ F2 rx hs1 fun σ2 F3 => ?_
        refine hb s1 B0 H0 A0 ρ' Hb2 H2 σ2 _ F3 ?_
        have up : Ex Hb1 Hb2 := h1.trans g2.1
        cases ho : body s1 with
        | nx s2 =>
          rw [ho] at h3
          exact fun ρ3 Hb3 H3 σ3 e3 F4 => ⟨ρ3, Hb3, s2, up.trans e3, F4, Mt.later h3 e3⟩
        | ct s2 =>
          rw [ho] at h3
          exact fun ρ3 Hb3 H3 σ3 e3 F4 => ⟨ρ3, Hb3, s2, up.trans e3, F4, Mt.later h3 e3⟩
        | bk s2 =>
          rw [ho] at h3
          exact h3
        | ret d =>
          rw [ho] at h3
          exact h3
        | exc x s2 =>
          rw [ho] at h3
          exact h3
        | bad =>
          rw [ho] at h3
          exact h3
        | own s2 i2 =>
          rw [ho] at h3
          exact h3
      · exact h3.elim
    · rintro σ' H' ⟨ρ', Hb', s', h1, h2, h3⟩
      rw [List.drop_length] at h3
      exact h3 ρ' Hb' H' σ' (.refl _) h2
def whL (c : S → Rs Bool) (body : S → Out) : Nat → S → Out
  | 0, _ => .bad
  | n + 1, s => oX s (c s) fun k => if k = true then (match body s with
      | .nx s2 => whL c body n s2
      | .ct s2 => whL c body n s2
      | .bk s2 => .nx s2
      | o => o) else .nx s
theorem rn_while {n : Nat} {tc : TT} {tb : TS} {c : S → Rs Bool} {body : S → Out} (hc : EvT P w K W tc c) (hb : Rn P w K W tb body) : Rn P w K W (tWhile tc tb) (whL c body n) := by
  intro s B0 H0 A0 ρ Hb H σ E F q
  refine ⟨fun m σ' H' => ∃ ρ' Hb' s', Fr P w K B0 H0 A0 ρ' Hb' H' σ' s' ∧ Mt P w K W B0 H0 A0 Hb' E (whL c body m s'), ⟨n, ρ, Hb, s, F, q⟩, ?_⟩
  rintro m σ' H' ⟨ρ', Hb', s', F', q'⟩
  cases m with
  | zero => exact q'.elim
  | succ m =>
    refine hc s' B0 H0 A0 ρ' Hb' H' σ' F' _ ?_
    unfold whL oX at q'
    cases e : c s' with
    | exc x =>
      rw [e] at q'
      exact fun cls dd Hb2 H2 g F2 x => q' cls dd ρ' Hb2 H2 σ' g F2 x
    | bad =>
      rw [e] at q'
      exact q'
    | ok k =>
      rw [e] at q'
      intro Hb2 H2 g F2
      dsimp only at q'
      have q' := Mt.later q' g
      cases k with
      | false =>
        refine iteF ?_
        rw [if_neg Bool.false_ne_true] at q'
        exact q' ρ' Hb2 H2 σ' (.refl _) F2
      | true =>
        refine iteT ?_
        rw [if_pos rfl] at q'
        refine ⟨fun σ3 H3 => ∃ ρ3 Hb3 s3, Fr P w K B0 H0 A0 ρ3 Hb3 H3 σ3 s3 ∧ Mt P w K W B0 H0 A0 Hb3 E (whL c body m s3), fun σ3 H3 h => ⟨m, Nat.lt_succ_self m, h⟩, ?_⟩
        refine hb s' B0 H0 A0 ρ' Hb2 H2 σ' _ F2 ?_
        cases ho : body s' with
        | nx s2 =>
          rw [ho] at q'
          exact fun ρ3 Hb3 H3 σ3 e3 F4 => ⟨ρ3, Hb3, s2, F4, Mt.later q' e3⟩
        | ct s2 =>
          rw [ho] at q'
          exact fun ρ3 Hb3 H3 σ3 e3 F4 => ⟨ρ3, Hb3, s2, F4, Mt.later q' e3⟩
        | bk s2 =>
          rw [ho] at q'
          exact q'
        | ret d =>
          rw [ho] at q'
          exact q'
        | exc x s2 =>
          rw [ho] at q'
          exact q'
        | bad =>
          rw [ho] at q'
          exact q'
        | own s2 i2 =>
          rw [ho] at q'
          exact q'
end
end DL
set_option Elab.async false
set_option linter.all false
set_option maxRecDepth 100000
set_option maxHeartbeats 4000000
/-! The data layer, 4: defs, comprehensions. -/
namespace DL
open PySem PySem.Spec PyProof.Rows L2
open Evl (Ex ex_l ex_t fresh_back)
set_option autoImplicit false

/-! ### defs -/
def startX (n : Nat) (ds : List D) : S := ⟨ds.map (fun d => some (.dat d)) ++ List.replicate (n - ds.length) none, []⟩
def endD : Out → Rs D
  | .nx _ => .ok .non
  | .ret d => .ok d
  | .exc e _ => .exc e
  | _ => .bad
def fnD (n np : Nat) (m : S → Out) (ds : List D) : Rs D := if ds.length = np then endD (m (startX n ds)) else .bad
theorem map_get_some {α β : Type} {f : α → β} {xs : List α} {i : Nat} {y : β} (h : (xs.map f)[i]? = some y) : ∃ x, xs[i]? = some x ∧ f x = y := by
  rw [List.getElem?_map] at h
  cases hx : xs[i]? with
  | none =>
    rw [hx] at h
    cases h
  | some x =>
    rw [hx] at h
    exact ⟨x, rfl, Option.some.inj h⟩
section
variable {P : Program} {w : World} {K : PySem.W.Frag} {mg : Str → Option Value} {base : Heap}
theorem fr_start {N : List Str} {B0 H : Hp} {vs : List V} {ds : List D} (e : Ex B0 H) (r : RA K B0 vs ds) : Fr P w K B0 H [] [] B0 H (L2.start N vs) (startX N.length ds) where
  ex := e
  b0 := .refl _
  h0 := .refl _
  hid := fun _ _ h _ => h
  len := rfl
  slen := by
    unfold L2.start startX
    simp [r.length]
  nd := List.nodup_nil
  anc := fun _ h => by cases h
  there := fun a h => by cases h
  sl := fun i x h => by
    unfold startX at h
    unfold L2.start
    dsimp only at h
    by_cases hi : i < ds.length
    · rw [List.getElem?_append_left (by simpa using hi)] at h
      obtain ⟨d, h1, h2⟩ := map_get_some h
      cases h2
      obtain ⟨v, h3, h4⟩ := r.get h1
      refine ⟨v, ?_, h4⟩
      rw [List.getElem?_append_left (by simpa [r.length] using hi)]
      simp [h3]
    · rw [List.getElem?_append_right (by simpa using hi)] at h
      rw [List.getElem?_replicate] at h
      split at h <;> cases h
  ce := fun k o h => by cases h
theorem def_ok {x qual : Str} {st : Stmt} {f : Addr} {fd : FuncData} {N ps : List Str} {k : Nat} {m : S → Out} (F : Fun K x qual st f fd) (Sc : FnScope N ps (defScope st))
    (hbody : ∀ (cdv : Value) (A : Around) (outer : List PySem.Env) (s : Shared) (H : Hp) (E : XK), Room k (A.deeper (envOfC qual (defScope st) s.heap.objs.size f cdv)) →
      ∃ t, PSs (cxOf (L2.CX P w) P w K mg base N qual (defScope st) f cdv A outer s H E) (defBody st) t ∧ Rn P w K (fun c d _ H' => E c d H') t m) :
    FnOk P w K mg base (L2.CX P w) (k + 1) f fd ps (spD K (fnD N.length ps.length m)) := by
  refine F.okX Sc (fun vs H Q E h => ?_) (fun cdv A outer s H vs Q E hr h => ?_)
  · obtain ⟨B0, ds, e, r, p⟩ := h
    unfold fnD at p
    split at p
    · rename_i hl
      rw [r.length]
      exact hl
    · exact p.elim
  · obtain ⟨t, h1, h2⟩ := hbody cdv A outer s H E hr
    obtain ⟨B0, ds, e, r, p⟩ := h
    refine ⟨t, h1, h2 (startX N.length ds) B0 H [] [] B0 H _ _ (fr_start e r) ?_⟩
    unfold fnD at p
    split at p
    · cases ho : m (startX N.length ds) with
      | nx s' =>
        rw [ho] at p
        exact fun ρ Hb' H' σ _ F' => p .non Hb' H' ⟨F'.b0, F'.h0, F'.ex, F'.hid⟩ .non
      | ret d =>
        rw [ho] at p
        exact fun v Hb' H' a b c e2 rv => p v Hb' H' ⟨a, b, c, e2⟩ rv
      | exc x s' =>
        rw [ho] at p
        exact fun cls dd ρ Hb' H' σ _ F' xr => p cls dd Hb' H' ⟨F'.b0, F'.h0, F'.ex, F'.hid⟩ xr
      | bk s' =>
        rw [ho] at p
        exact p.elim
      | ct s' =>
        rw [ho] at p
        exact p.elim
      | bad =>
        rw [ho] at p
        exact p.elim
      | own s' i' =>
        rw [ho] at p
        exact p.elim
    · exact p.elim
end

/-! ### comprehensions -/
def Rs.only {α β : Type} : Rs α → (α → Rs β) → Rs β
  | .ok a, f => f a
  | _, _ => .bad
@[simp] theorem Rs.only_ok {α β : Type} (a : α) (f : α → Rs β) : (Rs.ok a).only f = f a := rfl
theorem Rs.only_is {α β : Type} {r : Rs α} {f : α → Rs β} {b : β} (h : r.only f = .ok b) : ∃ a, r = .ok a ∧ f a = .ok b := by
  cases r with
  | ok a => exact ⟨a, rfl, h⟩
  | exc e => cases h
  | bad => cases h
theorem Rs.bind_is {α β : Type} {r : Rs α} {f : α → Rs β} {b : β} (h : r.bind f = .ok b) : ∃ a, r = .ok a ∧ f a = .ok b := by
  cases r with
  | ok a => exact ⟨a, rfl, h⟩
  | exc e => cases h
  | bad => cases h
def wipeE (δ : Dv) : List Nat → Dv
  | [] => δ
  | v :: vs => (wipeE δ vs).set v none
theorem wipeE_len (δ : Dv) : ∀ vs : List Nat, (wipeE δ vs).length = δ.length
  | [] => rfl
  | v :: vs => by
    unfold wipeE
    rw [List.length_set, wipeE_len δ vs]
theorem EnvR.wipe {K : PySem.W.Frag} {Hx H : Hp} {σ : L2.St} {δ : Dv} (e : EnvR K Hx H σ δ) : ∀ vs : List Nat, EnvR K Hx H (L2.wipe σ vs) (wipeE δ vs)
  | [] => e
  | v :: vs => by
    have ih := EnvR.wipe e vs
    refine ⟨ih.ex, by rw [wipe_length, wipeE_len]; exact e.len, fun i d h => ?_⟩
    unfold wipeE at h
    unfold L2.wipe
    by_cases hi : v = i
    · subst hi
      by_cases hl : v < (wipeE δ vs).length
      · rw [List.getElem?_set_self hl] at h
        cases h
      · rw [List.getElem?_eq_none (by rw [List.length_set]; omega)] at h
        cases h
    · rw [List.getElem?_set_ne hi] at h ⊢
      exact ih.sl i d h
theorem EnvR.set {K : PySem.W.Frag} {Hx H : Hp} {σ : L2.St} {δ : Dv} {i : Nat} {v : V} {d : D} (e : EnvR K Hx H σ δ) (r : R K Hx v d) : EnvR K Hx H (σ.set i (some v)) (δ.set i (some d)) := by
  refine ⟨e.ex, by rw [List.length_set, List.length_set]; exact e.len, fun j u h => ?_⟩
  by_cases hj : i = j
  · subst hj
    by_cases hl : i < δ.length
    · rw [List.getElem?_set_self hl] at h
      cases h
      exact ⟨v, by rw [List.getElem?_set_self (by rw [e.len]; exact hl)], r⟩
    · rw [List.getElem?_eq_none (by rw [List.length_set]; omega)] at h
      cases h
  · rw [List.getElem?_set_ne hj] at h ⊢
    exact e.sl j u h
theorem wipe_set {σ : L2.St} {i : Nat} {x : Option V} : ∀ {vs : List Nat}, i ∈ vs → L2.wipe (σ.set i x) vs = L2.wipe σ vs
  | [], h => by cases h
  | v :: vs, h => by
    unfold L2.wipe
    by_cases hi : i ∈ vs
    · rw [wipe_set hi]
    · have hv : i = v := by
        rcases List.mem_cons.mp h with e | e
        · exact e
        · exact absurd e hi
      subst hv
      have key : ∀ (us : List Nat) (τ : L2.St), L2.wipe (τ.set i x) us = (L2.wipe τ us).set i x ∨ i ∈ us := by
        intro us
        induction us with
        | nil => exact fun τ => .inl rfl
        | cons u us ih =>
          intro τ
          by_cases hu : u = i
          · exact .inr (by rw [hu]; exact List.mem_cons_self ..)
          · rcases ih τ with e | e
            · refine .inl ?_
              unfold L2.wipe
              rw [e, List.set_comm _ _ (Ne.symm hu)]
            · exact .inr (List.mem_cons_of_mem _ e)
      rcases key vs σ with e | e
      · rw [e, List.set_set]
      · exact absurd e hi
theorem wipe_wipe {σ : L2.St} : ∀ {us vs : List Nat}, (∀ i ∈ us, i ∈ vs) → L2.wipe (L2.wipe σ us) vs = L2.wipe σ vs
  | [], _, _ => rfl
  | u :: us, vs, h => by
    show L2.wipe ((L2.wipe σ us).set u none) vs = _
    rw [wipe_set (h u (List.mem_cons_self ..)), wipe_wipe fun i hi => h i (List.mem_cons_of_mem _ hi)]
/-- a target of a comprehension whose names are vs -/
def GtE (K : PySem.W.Frag) (vs : List Nat) (g : TG) (f : D → Dv → Option Dv) : Prop := ∀ Hx H σ δ v d δ' (Q : L2.St → Hp → Prop), EnvR K Hx H σ δ → R K Hx v d → f d δ = some δ' →
  (∀ σ', L2.wipe σ' vs = L2.wipe σ vs → EnvR K Hx H σ' δ' → Q σ' H) → g v σ H Q
def GtsE (K : PySem.W.Frag) (vs : List Nat) (g : TGs) (f : List D → Dv → Option Dv) : Prop := ∀ Hx H σ δ v d δ' (Q : L2.St → Hp → Prop), EnvR K Hx H σ δ → RA K Hx v d → f d δ = some δ' →
  (∀ σ', L2.wipe σ' vs = L2.wipe σ vs → EnvR K Hx H σ' δ' → Q σ' H) → g v σ H Q
section
variable {P : Program} {w : World} {K : PySem.W.Frag} {W : WX} {vs : List Nat} {δ : Dv}
def cN (i : Nat) (d : D) (δ : Dv) : Option Dv := some (δ.set i (some d))
theorem ge_name (i : Nat) (hi : i ∈ vs := by decide) : GtE K vs (gName i) (cN i) := by
  intro Hx H σ δ v d δ' Q e r h q
  cases h
  exact q _ (wipe_set hi) (e.set r)
def csNil (ds : List D) (δ : Dv) : Option Dv := match ds with
  | [] => some δ
  | _ => none
def csCons (f : D → Dv → Option Dv) (fs : List D → Dv → Option Dv) (ds : List D) (δ : Dv) : Option Dv := match ds with
  | d :: ds => (f d δ).bind (fs ds)
  | _ => none
theorem ges_nil : GtsE K vs gNil csNil := by
  intro Hx H σ δ v d δ' Q e r h q
  cases r with
  | nil =>
    cases h
    exact ⟨rfl, q _ rfl e⟩
  | cons _ _ => cases h
theorem ges_cons {t : TG} {u : TGs} {f : D → Dv → Option Dv} {fs : List D → Dv → Option Dv} (h1 : GtE K vs t f) (h2 : GtsE K vs u fs) : GtsE K vs (gCons t u) (csCons f fs) := by
  intro Hx H σ δ v d δ' Q e r h q
  cases r with
  | nil => cases h
  | @cons v us d ds r rs =>
    have h : (f d δ).bind (fs ds) = some δ' := h
    cases hf : f d δ with
    | none =>
      rw [hf] at h
      cases h
    | some s1 =>
      rw [hf] at h
      exact ⟨v, us, rfl, h1 Hx H σ δ v d s1 _ e r hf fun σ' hw e' => h2 Hx H σ' s1 us ds δ' Q e' rs h fun σ2 hw2 e2 => q σ2 (hw2.trans hw) e2⟩
def cTupD (n : Nat) (fs : List D → Dv → Option Dv) (d : D) (δ : Dv) : Option Dv := match d with
  | .tup ds => if ds.length = n then fs ds δ else none
  | _ => none
theorem ge_tup {n : Nat} {t : TGs} {fs : List D → Dv → Option Dv} (h : GtsE K vs t fs) : GtE K vs (gTup K n t) (cTupD n fs) := by
  intro Hx H σ δ v d δ' Q e r h' q
  cases r with
  | tup h1 h2 =>
    have e' : (if _ = n then _ else none) = some δ' := h'
    split at e'
    · rename_i hn
      exact ⟨_, _, rfl, ex_t e.ex h1, h2.length.trans hn, h Hx H σ δ _ _ δ' Q e h2 e' q⟩
    · cases e'
  | _ => cases h'
/-- the items of a comprehension -/
def lcL (f : D → Dv → Option Dv) (c : Dv → Rs Bool) (e : Dv → Rs D) (δ : Dv) : List D → Rs (List D)
  | [] => .ok []
  | d :: ds => match f d δ with
    | some δ1 => (c δ1).only fun b => if b = true then (e δ1).only fun y => (lcL f c e δ ds).only fun r => .ok (y :: r) else lcL f c e δ ds
    | none => .bad
def eLc (vs : List Nat) (f : D → Dv → Option Dv) (c : Dv → Rs Bool) (e : Dv → Rs D) (δ : Dv) (it : Rs (List D)) : Rs NO :=
  it.bind fun ds => if ds.length ≤ sizeLine then (lcL f c e (wipeE δ vs) ds).only fun r => .ok (.lst r) else .bad
abbrev W0 : WX := fun _ _ _ _ => False
def cTrue (_ : Dv) : Rs Bool := .ok true
theorem ev_yes : ∀ δ, EvB K W tYes δ (cTrue δ) := fun δ Hx H σ env Q p => p true Hx H (.refl env.ex) rfl
theorem ev_lc {wi : TI} {g : TG} {tt : TT} {te : TE} {f : D → Dv → Option Dv} {c : Dv → Rs Bool} {e : Dv → Rs D} {it : Rs (List D)} (hi : EvI K W wi δ it) (hg : GtE K vs g f) (hc : ∀ δ, EvB K W0 tt δ (c δ)) (he : ∀ δ, EvD K W0 te δ (e δ)) :
    EvN P w K W (tLc wi g tt te vs) δ (eLc vs f c e δ it) := by
  intro Hx H σ env Q p
  refine hi Hx H σ env _ ?_
  cases it with
  | exc x => exact p
  | bad => exact p
  | ok ds =>
    intro J G Y Hx1 H1 gw wk hG yd Dn hD
    have p : PsN P w K W σ Hx H Q (if ds.length ≤ sizeLine then (lcL f c e (wipeE δ vs) ds).only fun r => .ok (.lst r) else .bad) := p
    split at p
    · rename_i hl
      cases ht : lcL f c e (wipeE δ vs) ds with
      | exc x =>
        rw [ht] at p
        exact p.elim
      | bad =>
        rw [ht] at p
        exact p.elim
      | ok total =>
        rw [ht] at p
        have hDx : Hx1 Dn = none := fresh_back gw.2.2.1 hD
        have eD : Ex H1 (upd H1 Dn (.lst [])) := Evl.Ex.new hD
        refine lc_it wk (fun i H2 => ∃ Hx2 ys us rest, Gw Hx1 H1 Hx2 H2 ∧ Hx2 Dn = none ∧ H2 Dn = some (.lst us) ∧ RA K Hx2 us ys ∧ us.length ≤ i ∧ lcL f c e (wipeE δ vs) (ds.drop i) = .ok rest ∧ ys ++ rest = total)
          ⟨Hx1, [], [], total, ⟨.refl _, eD, gw.2.2.1.trans eD, fun _ _ h _ => h⟩, hDx, upd_same, .nil, Nat.le_refl _, ht, rfl⟩ (fun i H2 _ ⟨Hx2, _, _, _, g2, _⟩ => hG H2 (g2.1.trans g2.2.2.1)) ?_ ?_
        · rintro i x H2 H3 hi2 ⟨Hx2, ys, us, rest, g2, hd2, hD2, rus, hul, hrest, htot⟩ hy
          obtain ⟨d, Hx3, hd, g3, rx⟩ := yd i H2 x H3 Hx2 hi2 g2.1 g2.2.2.1 hy
          have ed : ds.drop i = d :: ds.drop (i + 1) := by
            rw [List.getElem?_eq_getElem hi2] at hd
            rw [List.drop_eq_getElem_cons hi2, Option.some.inj hd]
          rw [ed] at hrest
          unfold lcL at hrest
          split at hrest
          · rename_i δ1 hδ
            obtain ⟨b, hb, hrest⟩ := Rs.only_is hrest
            have g3' := g2.trans g3
            have env3 : EnvR K Hx3 H3 σ δ := (env.gw gw).gw g3'
            refine hg Hx3 H3 (L2.wipe σ vs) (wipeE δ vs) x d δ1 _ (env3.wipe vs) rx hδ fun σ2 hw env4 => ⟨hw.trans (wipe_wipe fun _ h => h), ?_⟩
            have hd3 : Hx3 Dn = none := g3.2.2.2 _ _ hd2 hD2
            have hD3 : H3 Dn = some (.lst us) := g3.2.1 _ _ hD2
            refine hc δ1 Hx3 H3 σ2 env4 _ ?_
            rw [hb]
            intro b' Hx4 H4 g4 eb
            cases eb
            have g4' := g3'.trans g4
            have hd4 : Hx4 Dn = none := g4.2.2.2 _ _ hd3 hD3
            have hD4 : H4 Dn = some (.lst us) := g4.2.1 _ _ hD3
            cases b with
            | false =>
              refine iteF ?_
              rw [if_neg Bool.false_ne_true] at hrest
              exact ⟨Hx4, ys, us, rest, g4', hd4, hD4, (rus.mono g3.1).mono g4.1, Nat.le_succ_of_le hul, hrest, htot⟩
            | true =>
              refine iteT ?_
              rw [if_pos rfl] at hrest
              obtain ⟨y, hy1, hrest⟩ := Rs.only_is hrest
              obtain ⟨rs, hy2, hrest⟩ := Rs.only_is hrest
              cases hrest
              refine he δ1 Hx4 H4 σ2 (env4.gw g4) _ ?_
              rw [hy1]
              intro yv Hx5 H5 g5 ry
              have hd5 : Hx5 Dn = none := g5.2.2.2 _ _ hd4 hD4
              have hD5 : H5 Dn = some (.lst us) := g5.2.1 _ _ hD4
              have g5' := g4'.trans g5
              refine ⟨us, hD5, by omega, Hx5, ys ++ [y], us ++ [yv], rs, ⟨g5'.1, Evl.Ex.mut g5'.2.1 hD, Evl.Ex.mut g5'.2.2.1 hd5, g5'.2.2.2⟩, hd5, upd_same, ((((rus.mono g3.1).mono g4.1).mono g5.1).append (.one ry)), by simp; omega, hy2, ?_⟩
              rw [List.append_assoc]
              exact htot
          · cases hrest
        · rintro H2 ⟨Hx2, ys, us, rest, g2, hd2, hD2, rus, hul, hrest, htot⟩
          rw [List.drop_length] at hrest
          cases hrest
          rw [List.append_nil] at htot
          subst htot
          exact p Dn (.lst us) Hx2 H2 (gw.trans g2) (fresh_back gw.2.1 hD) hd2 hD2 ⟨us, rfl, rus⟩
    · exact p.elim
end
end DL
set_option Elab.async false
set_option linter.all false
set_option maxRecDepth 100000
set_option maxHeartbeats 4000000
/-! The data layer, 5: operators. -/
namespace DL
open PySem PySem.Spec PyProof.Rows L2
open Evl (Ex ex_l ex_t fresh_back)
set_option autoImplicit false
section
variable {X : Cx} {K : PySem.W.Frag}

/-! ### + -/
def rAdd4 (K : PySem.W.Frag) : R2 := fun x y H Q => rI0 (fun i j => .int (i + j)) x y H Q ∨ (∃ i j, x = .str i ∧ y = .str j ∧ i.length + j.length ≤ sizeLine ∧ Q (.str (i ++ j)) H) ∨ rCat x y H Q ∨ rCatA K x y H Q
theorem op_addD : OpR X (binaryOp .Add) (rAdd4 X.K) := op_add.or (op_add_str.or (op_cat.or op_catA))
def dAdd : D → D → Option D
  | .int i, .int j => some (.int (i + j))
  | .str a, .str b => if a.length + b.length ≤ sizeLine then some (.str (a ++ b)) else none
  | .lst a, .lst b => if a.length + b.length ≤ sizeLine then some (.lst (a ++ b)) else none
  | .tup a, .tup b => if a.length + b.length ≤ sizeLine then some (.tup (a ++ b)) else none
  | _, _ => none
theorem ha_add : OpD K (rAdd4 K) dAdd := by
  intro Hx H x y d e z ex rx ry h Q q
  unfold dAdd at h
  split at h
  · cases h
    cases rx
    cases ry
    exact .inl ⟨_, _, rfl, rfl, q _ _ _ (.refl ex) (.int _)⟩
  · split at h
    · cases h
      cases rx
      cases ry
      rename_i hl
      exact .inr (.inl ⟨_, _, rfl, rfl, hl, q _ _ _ (.refl ex) (.str _)⟩)
    · cases h
  · split at h
    · cases h
      rename_i hl
      cases rx with
      | @lst _ xs _ h1 h2 =>
        cases ry with
        | @lst _ ys _ h3 h4 =>
          refine .inr (.inr (.inl ⟨_, _, _, _, rfl, rfl, ex _ _ h1, ex _ _ h3, by rw [h2.length, h4.length]; exact hl, fun p hp => ?_⟩))
          have g := Gw.new (o := .lst (xs ++ ys)) ex hp
          exact q _ _ _ g (.lst upd_same ((h2.append h4).mono g.1))
    · cases h
  · split at h
    · cases h
      rename_i a b hl
      cases rx with
      | @tup p1 xs _ h1 h2 =>
        cases ry with
        | @tup p2 ys _ h3 h4 =>
          refine .inr (.inr (.inr ⟨_, _, _, _, rfl, rfl, ex_t ex h1, ex_t ex h3, by rw [h2.length, h4.length]; exact hl, fun e => ?_, fun _ e => ?_, fun _ _ p hp => ?_⟩))
          · subst e
            cases h2
            exact q _ _ _ (.refl ex) (.tup h3 h4)
          · subst e
            cases h4
            rw [List.append_nil] at q
            exact q _ _ _ (.refl ex) (.tup h1 h2)
          · have g := Gw.new (o := .tup (xs ++ ys)) ex hp
            exact q _ _ _ g (.tup (SqT.of upd_same) ((h2.append h4).mono g.1))
    · cases h
  · cases h
/-! ### - -/
def dSub : D → D → Option D
  | .int i, .int j => some (.int (i - j))
  | _, _ => none
theorem ha_I0 {g : Int → Int → V} {f : Int → Int → D} {f' : D → D → Option D} (hf : ∀ d e z, f' d e = some z → ∃ i j, d = .int i ∧ e = .int j ∧ z = f i j) (hg : ∀ i j Hx, R K Hx (g i j) (f i j)) : OpD K (rI0 g) f' := by
  intro Hx H x y d e z ex rx ry h Q q
  obtain ⟨i, j, rfl, rfl, rfl⟩ := hf d e z h
  cases rx
  cases ry
  exact ⟨_, _, rfl, rfl, q _ _ _ (.refl ex) (hg _ _ _)⟩
theorem ha_sub : OpD K (rI0 fun i j => .int (i - j)) dSub := by
  intro Hx H x y d e z ex rx ry h Q q
  unfold dSub at h
  split at h
  · cases h
    cases rx
    cases ry
    exact ⟨_, _, rfl, rfl, q _ _ _ (.refl ex) (.int _)⟩
  · cases h
/-! ### * -/
instance {x : Str} {n : Int} : Decidable (MulOk x n) := by unfold MulOk; infer_instance
def rMulS : R2 := fun x y H Q => ∃ a n, x = .str a ∧ y = .int n ∧ MulOk a n ∧ Q (.str (Txt.mul a n)) H
theorem op_mul_str : OpR X (binaryOp .Mult) rMulS := by
  intro pins s σ H x y v u Q I rx ry h
  obtain ⟨a, n, rfl, rfl, ho, q⟩ := h
  obtain ⟨t, rfl⟩ := rx
  obtain ⟨t', rfl⟩ := ry
  exact SB.mul ho fun t' k => ⟨.str _, H, I.tok _, ⟨_, rfl⟩, q⟩
def rMul3 : R2 := fun x y H Q => rI CMulW (fun i j => .int (i * j)) x y H Q ∨ rMulS x y H Q ∨ rRep x y H Q
theorem op_mulD : OpR X (binaryOp .Mult) rMul3 := op_mulW.or (op_mul_str.or op_rep)
instance {i j : Int} : Decidable (CMulW i j) := by unfold CMulW; infer_instance
def dMul : D → D → Option D
  | .int i, .int j => if CMulW i j then some (.int (i * j)) else none
  | .str a, .int n => if MulOk a n then some (.str (Txt.mul a n)) else none
  | .lst a, .int n => if -(2 ^ 63) ≤ n ∧ n < 2 ^ 63 ∧ a.length * n.toNat ≤ sizeLine then some (.lst (List.replicate n.toNat a).flatten) else none
  | _, _ => none
theorem RA.rep {H : Hp} {vs : List V} {ds : List D} (r : RA K H vs ds) : ∀ n : Nat, RA K H (List.replicate n vs).flatten (List.replicate n ds).flatten
  | 0 => .nil
  | n + 1 => by
    rw [List.replicate_succ, List.replicate_succ, List.flatten_cons, List.flatten_cons]
    exact r.append (RA.rep r n)
theorem ha_mul : OpD K rMul3 dMul := by
  intro Hx H x y d e z ex rx ry h Q q
  unfold dMul at h
  split at h
  · split at h
    · cases h
      cases rx
      cases ry
      rename_i hc
      exact .inl ⟨_, _, rfl, rfl, hc, q _ _ _ (.refl ex) (.int _)⟩
    · cases h
  · split at h
    · cases h
      cases rx
      cases ry
      rename_i hc
      exact .inr (.inl ⟨_, _, rfl, rfl, hc, q _ _ _ (.refl ex) (.str _)⟩)
    · cases h
  · split at h
    · cases h
      rename_i hc
      cases ry
      cases rx with
      | lst h1 h2 =>
        refine .inr (.inr ⟨_, _, _, rfl, rfl, ex _ _ h1, hc.1, hc.2.1, by rw [h2.length]; exact hc.2.2, fun p hp => ?_⟩)
        exact q _ _ _ (Gw.new ex hp) (.lst upd_same ((h2.rep _).mono (Gw.new ex hp).1))
    · cases h
  · cases h
/-! ### %, //, ** -/
def dMod : D → D → Option D
  | .int i, .int j => if 0 < j then some (.int (i % j)) else none
  | _, _ => none
theorem ha_I {C : Int → Int → Prop} {g : Int → Int → Int} {f' : D → D → Option D} (hf : ∀ d e z, f' d e = some z → ∃ i j, d = .int i ∧ e = .int j ∧ C i j ∧ z = .int (g i j)) : OpD K (rI C fun i j => .int (g i j)) f' := by
  intro Hx H x y d e z ex rx ry h Q q
  obtain ⟨i, j, rfl, rfl, hc, rfl⟩ := hf d e z h
  cases rx
  cases ry
  exact ⟨_, _, rfl, rfl, hc, q _ _ _ (.refl ex) (.int _)⟩
theorem ha_mod : OpD K (rI (fun _ j => 0 < j) fun i j => .int (i % j)) dMod := ha_I (C := fun _ j => 0 < j) (g := fun i j => i % j) (by
  intro d e z h
  unfold dMod at h
  split at h
  · split at h
    · rename_i hc
      cases h
      exact ⟨_, _, rfl, rfl, hc, rfl⟩
    · cases h
  · cases h)
instance {i j : Int} : Decidable (CDivW i j) := by unfold CDivW; infer_instance
def dDiv : D → D → Option D
  | .int i, .int j => if CDivW i j then some (.int (i / j)) else none
  | _, _ => none
theorem ha_div : OpD K (rI CDivW fun i j => .int (i / j)) dDiv := ha_I (C := CDivW) (g := fun i j => i / j) (by
  intro d e z h
  unfold dDiv at h
  split at h
  · split at h
    · rename_i hc
      cases h
      exact ⟨_, _, rfl, rfl, hc, rfl⟩
    · cases h
  · cases h)
instance {i j : Int} : Decidable (CPow i j) := by unfold CPow; infer_instance
def dPow : D → D → Option D
  | .int i, .int j => if CPow i j then some (.int (i ^ j.toNat)) else none
  | _, _ => none
theorem ha_pow : OpD K (rI CPow fun i j => .int (i ^ j.toNat)) dPow := ha_I (C := CPow) (g := fun i j => i ^ j.toNat) (by
  intro d e z h
  unfold dPow at h
  split at h
  · split at h
    · rename_i hc
      cases h
      exact ⟨_, _, rfl, rfl, hc, rfl⟩
    · cases h
  · cases h)
/-! ### <, <=, >, >= of ints -/
def dLt : D → D → Option D
  | .int i, .int j => some (.bl (decide (i < j)))
  | _, _ => none
def dLe : D → D → Option D
  | .int i, .int j => some (.bl (decide (i ≤ j)))
  | _, _ => none
def dGt : D → D → Option D
  | .int i, .int j => some (.bl (decide (j < i)))
  | _, _ => none
def dGe : D → D → Option D
  | .int i, .int j => some (.bl (decide (j ≤ i)))
  | _, _ => none
theorem ha_lt : OpD K (rI0 fun i j => .bl (decide (i < j))) dLt := ha_I0 (f := fun i j => .bl (decide (i < j))) (by
  intro d e z h
  unfold dLt at h
  split at h
  · cases h
    exact ⟨_, _, rfl, rfl, rfl⟩
  · cases h) fun _ _ _ => .bl _
theorem ha_le : OpD K (rI0 fun i j => .bl (decide (i ≤ j))) dLe := ha_I0 (f := fun i j => .bl (decide (i ≤ j))) (by
  intro d e z h
  unfold dLe at h
  split at h
  · cases h
    exact ⟨_, _, rfl, rfl, rfl⟩
  · cases h) fun _ _ _ => .bl _
theorem ha_gt : OpD K (rI0 fun i j => .bl (decide (j < i))) dGt := ha_I0 (f := fun i j => .bl (decide (j < i))) (by
  intro d e z h
  unfold dGt at h
  split at h
  · cases h
    exact ⟨_, _, rfl, rfl, rfl⟩
  · cases h) fun _ _ _ => .bl _
theorem ha_ge : OpD K (rI0 fun i j => .bl (decide (j ≤ i))) dGe := ha_I0 (f := fun i j => .bl (decide (j ≤ i))) (by
  intro d e z h
  unfold dGe at h
  split at h
  · cases h
    exact ⟨_, _, rfl, rfl, rfl⟩
  · cases h) fun _ _ _ => .bl _
/-! ### ==, != of data -/
mutual
def toP : D → Option PyData
  | .non => some .none
  | .bl b => some (.bool b)
  | .int i => some (.int i)
  | .str x => some (.str x)
  | .lst xs => (toPs xs).map PyData.list
  | .tup xs => (toPs xs).map PyData.tuple
  | .ins _ _ => none
  | .dic _ => none
  | .sq _ => none
  | .exn _ _ _ => none
def toPs : List D → Option (List PyData)
  | [] => some []
  | d :: ds => match toP d, toPs ds with
    | some p, some ps => some (p :: ps)
    | _, _ => none
end
mutual
theorem dp_of {H : Hp} : ∀ {v : V} {d : D} {p : PyData}, R K H v d → toP d = some p → Dp K H v p
  | _, _, _, .non, h => by
    unfold toP at h
    cases h
    exact .non
  | _, _, _, .bl b, h => by
    unfold toP at h
    cases h
    exact .bl b
  | _, _, _, .int i, h => by
    unfold toP at h
    cases h
    exact .int i
  | _, _, _, .str x, h => by
    unfold toP at h
    cases h
    exact .str x
  | _, _, _, .lst (ds := ds) h1 h2, h => by
    unfold toP at h
    cases e : toPs ds with
    | none =>
      rw [e] at h
      cases h
    | some ps =>
      rw [e] at h
      cases h
      exact .lst (SqL.of h1) (dps_of h2 e)
  | _, _, _, .tup (ds := ds) h1 h2, h => by
    unfold toP at h
    cases e : toPs ds with
    | none =>
      rw [e] at h
      cases h
    | some ps =>
      rw [e] at h
      cases h
      exact .tup h1 (dps_of h2 e)
  | _, _, _, .ins _ _, h => by
    unfold toP at h
    cases h
  | _, _, _, .dic _ _, h => by
    unfold toP at h
    cases h
  | _, _, _, .sq _, h => by
    unfold toP at h
    cases h
  | _, _, _, .exn0 _, h => by
    unfold toP at h
    cases h
  | _, _, _, .exn1 _ _, h => by
    unfold toP at h
    cases h
theorem dps_of {H : Hp} : ∀ {vs : List V} {ds : List D} {ps : List PyData}, RA K H vs ds → toPs ds = some ps → DpAll K H vs ps
  | _, _, _, .nil, h => by
    unfold toPs at h
    cases h
    exact .nil
  | _, _, _, .cons (d := d) (ds := ds) r rs, h => by
    unfold toPs at h
    cases e1 : toP d with
    | none =>
      rw [e1] at h
      cases h
    | some p =>
      cases e2 : toPs ds with
      | none =>
        rw [e1, e2] at h
        cases h
      | some ps =>
        rw [e1, e2] at h
        cases h
        exact .cons (dp_of r e1) (dps_of rs e2)
end
theorem Dp.mono {H H' : Hp} (e : Ex H H') : ∀ {v : V} {d : D} {p : PyData}, R K H v d → toP d = some p → Dp K H' v p := fun r h => dp_of (r.mono e) h
def okEq (p q : PyData) : Bool := (p.plain && q.plain) && decide (min p.depth q.depth ≤ 64)
def rEqP (K : PySem.W.Frag) : R2 := fun x y H Q => ∃ d e, Dp K H x d ∧ Dp K H y e ∧ okEq d e = true ∧ Q (.bl (PyData.eqv d e)) H
def rNeP (K : PySem.W.Frag) : R2 := fun x y H Q => ∃ d e, Dp K H x d ∧ Dp K H y e ∧ okEq d e = true ∧ Q (.bl (!PyData.eqv d e)) H
theorem okEq_is {p q : PyData} (h : okEq p q = true) : p.plain = true ∧ q.plain = true ∧ min p.depth q.depth ≤ 64 := by
  unfold okEq at h
  simp only [Bool.and_eq_true, decide_eq_true_eq] at h
  exact ⟨h.1.1, h.1.2, h.2⟩
theorem op_eqP (hu : X.A.units + 64 < cLine) : OpR X (compareOp .Eq) (rEqP X.K) := by
  intro pins s σ H x y v u Q I rx ry h
  obtain ⟨d, e, hd, he, hk, q⟩ := h
  obtain ⟨as, r1⟩ := Dp.reads I d x v hd rx
  obtain ⟨bs, r2⟩ := Dp.reads I e y u he ry
  obtain ⟨k1, k2, k3⟩ := okEq_is hk
  exact PySem.SeqAt.eq_plain r1 r2 k1 k2 (by omega) ⟨.bl _, H, I, rfl, q⟩
theorem op_neP (hu : X.A.units + 64 < cLine) : OpR X (compareOp .NotEq) (rNeP X.K) := by
  intro pins s σ H x y v u Q I rx ry h
  obtain ⟨d, e, hd, he, hk, q⟩ := h
  obtain ⟨as, r1⟩ := Dp.reads I d x v hd rx
  obtain ⟨bs, r2⟩ := Dp.reads I e y u he ry
  obtain ⟨k1, k2, k3⟩ := okEq_is hk
  exact PySem.SeqAt.ne_plain r1 r2 k1 k2 (by omega) ⟨.bl _, H, I, rfl, q⟩
def eqD (d e : D) : Option Bool := match toP d, toP e with
  | some p, some q => if okEq p q = true then some (PyData.eqv p q) else none
  | _, _ => none
def dEq (d e : D) : Option D := (eqD d e).map .bl
def dNe (d e : D) : Option D := (eqD d e).map fun b => .bl (!b)
theorem eqD_is {d e : D} {b : Bool} (h : eqD d e = some b) : ∃ p q, toP d = some p ∧ toP e = some q ∧ okEq p q = true ∧ b = PyData.eqv p q := by
  unfold eqD at h
  split at h
  · rename_i p q hp hq
    split at h
    · rename_i hs
      cases h
      exact ⟨p, q, hp, hq, hs, rfl⟩
    · cases h
  · cases h
theorem ha_eq : OpD K (rEqP K) dEq := by
  intro Hx H x y d e z ex rx ry h Q q
  unfold dEq at h
  cases hb : eqD d e with
  | none =>
    rw [hb] at h
    cases h
  | some b =>
    rw [hb] at h
    cases h
    obtain ⟨p1, p2, h1, h2, h3, rfl⟩ := eqD_is hb
    exact ⟨p1, p2, Dp.mono ex rx h1, Dp.mono ex ry h2, h3, q _ _ _ (.refl ex) (.bl _)⟩
theorem ha_ne : OpD K (rNeP K) dNe := by
  intro Hx H x y d e z ex rx ry h Q q
  unfold dNe at h
  cases hb : eqD d e with
  | none =>
    rw [hb] at h
    cases h
  | some b =>
    rw [hb] at h
    cases h
    obtain ⟨p1, p2, h1, h2, h3, rfl⟩ := eqD_is hb
    exact ⟨p1, p2, Dp.mono ex rx h1, Dp.mono ex ry h2, h3, q _ _ _ (.refl ex) (.bl _)⟩
/-! ### is -/
def isNonD : D → Bool
  | .non => true
  | _ => false
def dIsN (d e : D) : Option D := match e with
  | .non => some (.bl (isNonD d))
  | _ => none
def dNotN (d e : D) : Option D := match e with
  | .non => some (.bl (!isNonD d))
  | _ => none
theorem isNon_R {H : Hp} {v : V} {d : D} (r : R K H v d) : decide (v = .non) = isNonD d := by
  cases r <;> rfl
theorem ha_isN : OpD K (fun x y H Q => y = .non ∧ Q (.bl (decide (x = .non))) H) dIsN := by
  intro Hx H x y d e z ex rx ry h Q q
  unfold dIsN at h
  split at h
  · cases h
    cases ry
    refine ⟨rfl, ?_⟩
    rw [isNon_R rx]
    exact q _ _ _ (.refl ex) (.bl _)
  · cases h
theorem ha_notN : OpD K (fun x y H Q => y = .non ∧ Q (.bl (!decide (x = .non))) H) dNotN := by
  intro Hx H x y d e z ex rx ry h Q q
  unfold dNotN at h
  split at h
  · cases h
    cases ry
    refine ⟨rfl, ?_⟩
    rw [isNon_R rx]
    exact q _ _ _ (.refl ex) (.bl _)
  · cases h
def rIsBl : R2 := fun x y H Q => ∃ b, y = .bl b ∧ Q (.bl (decide (x = .bl b))) H
def rNotBl : R2 := fun x y H Q => ∃ b, y = .bl b ∧ Q (.bl (!decide (x = .bl b))) H
theorem plain_bl {x : V} {v : Value} {b : Bool} (r : RelV x v) : plainIs v (.bool b) = true := by
  cases x <;> first
    | (cases r; rfl)
    | (obtain ⟨t, rfl⟩ := r; rfl)
theorem bl_ne {x : V} {v : Value} {b : Bool} (r : RelV x v) (h : ¬ x = .bl b) : v ≠ .bool b := fun z => h (by
  subst z
  exact r.inj (show RelV (.bl b) (.bool b) from rfl))
theorem op_isB : OpR X (compareOp .Is) rIsBl := by
  intro pins s σ H x y v u Q I rx ry h
  obtain ⟨b, rfl, q⟩ := h
  cases ry
  by_cases e : x = .bl b
  · subst e
    cases rx
    exact wpAny_is_self rfl ⟨.bl true, H, I, rfl, by simpa using q⟩
  · exact wpAny_is_other (plain_bl rx) (bl_ne rx e) ⟨.bl false, H, I, rfl, by simpa [e] using q⟩
theorem op_isNotB : OpR X (compareOp .IsNot) rNotBl := by
  intro pins s σ H x y v u Q I rx ry h
  obtain ⟨b, rfl, q⟩ := h
  cases ry
  by_cases e : x = .bl b
  · subst e
    cases rx
    exact wpAny_isNot_self rfl ⟨.bl false, H, I, rfl, by simpa using q⟩
  · exact wpAny_isNot_other (plain_bl rx) (bl_ne rx e) ⟨.bl true, H, I, rfl, by simpa [e] using q⟩
def isBlD (b : Bool) : D → Bool
  | .bl c => c == b
  | _ => false
theorem isBl_R {H : Hp} {v : V} {d : D} {b : Bool} (r : R K H v d) : decide (v = .bl b) = isBlD b d := by
  cases r with
  | bl c =>
    show decide (V.bl c = V.bl b) = (c == b)
    exact dec_bl
  | _ => rfl
def dIsB : D → D → Option D
  | d, .bl b => some (.bl (isBlD b d))
  | _, _ => none
def dNotB : D → D → Option D
  | d, .bl b => some (.bl (!isBlD b d))
  | _, _ => none
theorem ha_isB : OpD K rIsBl dIsB := by
  intro Hx H x y d e z ex rx ry h Q q
  cases ry with
  | bl b =>
    cases h
    refine ⟨b, rfl, ?_⟩
    rw [isBl_R rx]
    exact q _ _ _ (.refl ex) (.bl _)
  | _ => cases h
theorem ha_isNotB : OpD K rNotBl dNotB := by
  intro Hx H x y d e z ex rx ry h Q q
  cases ry with
  | bl b =>
    cases h
    refine ⟨b, rfl, ?_⟩
    rw [isBl_R rx]
    exact q _ _ _ (.refl ex) (.bl _)
  | _ => cases h
/-! ### in -/
def flatEq : D → D → Bool
  | .non, .non => true
  | .bl a, .bl b => a == b
  | .bl a, .int b => (if a then 1 else 0) == b
  | .int a, .bl b => a == (if b then 1 else 0)
  | .int a, .int b => a == b
  | .str a, .str b => a == b
  | _, _ => false
theorem flatV_R {H : Hp} {v : V} {d : D} (r : R K H v d) : flatV v = flatD d := by
  cases r <;> rfl
theorem flatVs_R {H : Hp} {vs : List V} {ds : List D} (r : RA K H vs ds) : vs.all flatV = ds.all flatD := by
  match vs, ds, r with
  | _, _, .nil => rfl
  | _, _, .cons r rs =>
    rw [List.all_cons, List.all_cons, flatV_R r, flatVs_R rs]
theorem eqV_R {H : Hp} {v u : V} {d e : D} (r : R K H v d) (r2 : R K H u e) : eqV v u = flatEq d e := by
  cases r <;> cases r2 <;> rfl
theorem inV_R {H : Hp} {x : V} {e : D} {vs : List V} {ds : List D} (r : RA K H vs ds) (rx : R K H x e) : inV x vs = ds.any fun d => flatEq d e := by
  unfold inV
  match vs, ds, r with
  | _, _, .nil => rfl
  | _, _, .cons r rs =>
    rw [List.any_cons, List.any_cons, eqV_R r rx]
    congr 1
    exact inV_R rs rx
def seqOf : D → Option (List D)
  | .lst xs => some xs
  | .tup xs => some xs
  | _ => none
def inSeq (x : D) (y : D) : Option Bool := match y with
  | .lst xs => if (flatD x && xs.all flatD) = true then some (xs.any fun d => flatEq d x) else none
  | .tup xs => if (flatD x && xs.all flatD) = true then some (xs.any fun d => flatEq d x) else none
  | .str z => match x with
    | .str w => some (!(Builtin.Str.occurrences z w 0 z.length 1).isEmpty)
    | _ => none
  | _ => none
def rInA (K : PySem.W.Frag) : R2 := fun x y H Q => rIn K false x y H Q ∨ ∃ i j, x = .str i ∧ y = .str j ∧ Q (.bl (!(Builtin.Str.occurrences j i 0 j.length 1).isEmpty)) H
def rNotInA (K : PySem.W.Frag) : R2 := fun x y H Q => rIn K true x y H Q ∨ ∃ i j, x = .str i ∧ y = .str j ∧ Q (.bl (!(!(Builtin.Str.occurrences j i 0 j.length 1).isEmpty))) H
theorem op_inA : OpR X (compareOp .In) (rInA X.K) := op_in_seq.or op_in_str
theorem op_notInA : OpR X (compareOp .NotIn) (rNotInA X.K) := op_notIn_seq.or op_notin_str
def dIn (x y : D) : Option D := (inSeq x y).map .bl
def dNotIn (x y : D) : Option D := (inSeq x y).map fun b => .bl (!b)
theorem inSeq_R {Hx H : Hp} {neg : Bool} {x y : V} {d e : D} {b : Bool} (ex : Ex Hx H) (rx : R K Hx x d) (ry : R K Hx y e) (h : inSeq d e = some b) {Q : VK} (q : Q (.bl (if neg then !b else b)) H) :
    rIn K neg x y H Q ∨ ∃ i j, x = .str i ∧ y = .str j ∧ b = !(Builtin.Str.occurrences j i 0 j.length 1).isEmpty := by
  unfold inSeq at h
  split at h
  · split at h
    · rename_i hc
      simp only [Bool.and_eq_true] at hc
      cases h
      cases ry with
      | lst h1 h2 =>
        refine .inl ⟨_, _, rfl, .inl (SqL.of (ex _ _ h1)), by rw [flatV_R rx]; exact hc.1, by rw [flatVs_R h2]; exact hc.2, ?_⟩
        rw [inV_R h2 rx]
        exact q
    · cases h
  · split at h
    · rename_i hc
      simp only [Bool.and_eq_true] at hc
      cases h
      cases ry with
      | tup h1 h2 =>
        refine .inl ⟨_, _, rfl, .inr (ex_t ex h1), by rw [flatV_R rx]; exact hc.1, by rw [flatVs_R h2]; exact hc.2, ?_⟩
        rw [inV_R h2 rx]
        exact q
    · cases h
  · split at h
    · cases h
      cases rx
      cases ry
      exact .inr ⟨_, _, rfl, rfl, rfl⟩
    · cases h
  · cases h
theorem ha_in : OpD K (rInA K) dIn := by
  intro Hx H x y d e z ex rx ry h Q q
  unfold dIn at h
  cases hb : inSeq d e with
  | none =>
    rw [hb] at h
    cases h
  | some b =>
    rw [hb] at h
    cases h
    rcases inSeq_R (neg := false) ex rx ry hb (q _ _ _ (.refl ex) (.bl _)) with h | ⟨i, j, rfl, rfl, rfl⟩
    · exact .inl h
    · exact .inr ⟨_, _, rfl, rfl, q _ _ _ (.refl ex) (.bl _)⟩
theorem ha_notIn : OpD K (rNotInA K) dNotIn := by
  intro Hx H x y d e z ex rx ry h Q q
  unfold dNotIn at h
  cases hb : inSeq d e with
  | none =>
    rw [hb] at h
    cases h
  | some b =>
    rw [hb] at h
    cases h
    rcases inSeq_R (neg := true) ex rx ry hb (q _ _ _ (.refl ex) (.bl _)) with h | ⟨i, j, rfl, rfl, rfl⟩
    · exact .inl h
    · exact .inr ⟨_, _, rfl, rfl, q _ _ _ (.refl ex) (.bl _)⟩
/-! ### subscripts -/
def dIx : D → D → Option D
  | .lst xs, .int i => atI xs i
  | .tup xs, .int i => atI xs i
  | .str z, .int i => if z.length ≤ sizeLine then (atI z.cps.toList i).map sign else none
  | .sq ns, .int i => (atI ns i).map .int
  | _, _ => none
theorem atI_R {H : Hp} {vs : List V} {ds : List D} {i : Int} {d : D} (r : RA K H vs ds) (h : atI ds i = some d) : ∃ v, atI vs i = some v ∧ R K H v d := by
  unfold atI at h ⊢
  rw [r.length]
  cases e : ixN ds.length i with
  | none =>
    rw [e] at h
    cases h
  | some j =>
    rw [e] at h
    exact r.get h
theorem ha_ix : OpD K (rIx K) dIx := by
  intro Hx H x y d e z ex rx ry h Q q
  unfold dIx at h
  split at h
  · cases ry
    cases rx with
    | lst h1 h2 =>
      obtain ⟨v, h3, h4⟩ := atI_R h2 h
      exact .inl ⟨_, _, _, v, rfl, rfl, SqL.of (ex _ _ h1), h3, q _ _ _ (.refl ex) h4⟩
  · cases ry
    cases rx with
    | tup h1 h2 =>
      obtain ⟨v, h3, h4⟩ := atI_R h2 h
      exact .inr (.inl ⟨_, _, _, v, rfl, rfl, ex_t ex h1, h3, q _ _ _ (.refl ex) h4⟩)
  · split at h
    · rename_i z' i' hl
      cases ry
      cases rx
      cases ha : atI z'.cps.toList i' with
      | none =>
        rw [ha] at h
        cases h
      | some c =>
        rw [ha] at h
        cases h
        exact .inr (.inr ⟨_, _, c, rfl, rfl, hl, ha, q _ _ _ (.refl ex) (.str _)⟩)
    · cases h
  · rename_i ns i'
    cases ry
    cases rx with
    | sq h1 =>
      cases ha : atI ns i' with
      | none =>
        rw [ha] at h
        cases h
      | some c =>
        rw [ha] at h
        cases h
        refine .inl ⟨_, _, _, .int c, rfl, rfl, ex_l ex h1, ?_, q _ _ _ (.refl ex) (.int _)⟩
        unfold atI at ha ⊢
        rw [List.length_map]
        cases e : ixN ns.length i' with
        | none =>
          rw [e] at ha
          cases ha
        | some j =>
          rw [e] at ha
          show (ns.map V.int)[j]? = some (V.int c)
          rw [List.getElem?_map]
          have ha : ns[j]? = some c := ha
          rw [ha]
          rfl
  · cases h
/-! ### unary -/
def dNeg : D → Option D
  | .int i => some (.int (-i))
  | _ => none
theorem ha_neg : UnD K (rU fun i => .int (-i)) dNeg := by
  intro Hx H x d z ex rx h Q q
  cases rx with
  | int i =>
    cases h
    exact ⟨i, rfl, q _ _ _ (.refl ex) (.int _)⟩
  | _ => cases h
end
end DL
set_option Elab.async false
set_option linter.all false
set_option maxRecDepth 100000
set_option maxHeartbeats 4000000
/-! The data layer, 6: built-ins, methods, slices, displays. -/
namespace DL
open PySem PySem.Spec PyProof.Rows L2
open Evl (Ex ex_l ex_t fresh_back)
set_option autoImplicit false
section
variable {X : Cx} {P : Program} {w : World} {K : PySem.W.Frag} {W : WX} {δ : Dv}
/-! ### built-ins by values -/
theorem CallR.or {f : Value} {r r' : List V → Hp → VK → Prop} (h : CallR X f r) (h' : CallR X f r') : CallR X f (fun xs H Q => r xs H Q ∨ r' xs H Q) := by
  intro pins s σ H xs us Q I rs q
  rcases q with q | q
  · exact h pins s σ H xs us Q I rs q
  · exact h' pins s σ H xs us Q I rs q
theorem RA.one_is {H : Hp} {vs : List V} {d : D} (r : RA K H vs [d]) : ∃ v, vs = [v] ∧ R K H v d := by
  cases r with
  | cons r rs =>
    cases rs
    exact ⟨_, rfl, r⟩
theorem RA.two_is {H : Hp} {vs : List V} {d e : D} (r : RA K H vs [d, e]) : ∃ v u, vs = [v, u] ∧ R K H v d ∧ R K H u e := by
  cases r with
  | cons r rs =>
    obtain ⟨u, rfl, r2⟩ := rs.one_is
    exact ⟨_, _, rfl, r, r2⟩
def lenD : D → Option Nat
  | .str y => if y.length ≤ sizeLine then some y.length else none
  | .lst xs => some xs.length
  | .tup xs => some xs.length
  | .sq xs => some xs.length
  | _ => none
def rLenA (K : PySem.W.Frag) : List V → Hp → VK → Prop := fun xs H Q => ∃ x n, xs = [x] ∧ LenV K x H n ∧ Q (.int n) H
def cLen : List D → Option D
  | [d] => (lenD d).map fun n => .int (n : Nat)
  | _ => none
theorem hc_len : CbD K (rLenA K) cLen := by
  intro Hx H xs ds z ex r h Q q
  unfold cLen at h
  split at h
  · rename_i d
    obtain ⟨v, rfl, rv⟩ := r.one_is
    cases hl : lenD d with
    | none =>
      rw [hl] at h
      cases h
    | some n =>
      rw [hl] at h
      cases h
      refine ⟨v, n, rfl, ?_, q _ _ _ (.refl ex) (.int _)⟩
      unfold lenD at hl
      split at hl
      · split at hl
        · rename_i hz
          cases hl
          cases rv
          exact ⟨hz, rfl⟩
        · cases hl
      · cases hl
        cases rv with
        | lst h1 h2 => exact .inl ⟨_, SqL.of (ex _ _ h1), h2.length.symm⟩
      · cases hl
        cases rv with
        | tup h1 h2 => exact .inr ⟨_, ex_t ex h1, h2.length.symm⟩
      · cases hl
        cases rv with
        | sq h1 => exact .inl ⟨_, ex_l ex h1, (List.length_map _).symm⟩
      · cases hl
  · cases h
def rInt3 : List V → Hp → VK → Prop := fun xs H Q => ((∃ i, xs = [.int i] ∧ Q (.int i) H) ∨ ∃ k, xs = [.bl k] ∧ Q (.int (if k then 1 else 0)) H) ∨ ∃ a n, xs = [.str a] ∧ PySem.intText? a = some n ∧ a.length ≤ 640 ∧ Q (.int n) H
theorem call_intD : CallR X (.type "int") rInt3 := CallR.or call_int1 call_int_str
def cInt : List D → Option D
  | [.int i] => some (.int i)
  | [.bl k] => some (.int (if k then 1 else 0))
  | [.str a] => if a.length ≤ 640 then (PySem.intText? a).map .int else none
  | _ => none
theorem hc_int : CbD K rInt3 cInt := by
  intro Hx H xs ds z ex r h Q q
  unfold cInt at h
  split at h
  · obtain ⟨v, rfl, rv⟩ := r.one_is
    cases h
    cases rv
    exact .inl (.inl ⟨_, rfl, q _ _ _ (.refl ex) (.int _)⟩)
  · obtain ⟨v, rfl, rv⟩ := r.one_is
    cases h
    cases rv
    exact .inl (.inr ⟨_, rfl, q _ _ _ (.refl ex) (.int _)⟩)
  · obtain ⟨v, rfl, rv⟩ := r.one_is
    split at h
    · rename_i a hl
      cases ht : PySem.intText? a with
      | none =>
        rw [ht] at h
        cases h
      | some n =>
        rw [ht] at h
        cases h
        cases rv
        exact .inr ⟨_, n, rfl, ht, hl, q _ _ _ (.refl ex) (.int _)⟩
    · cases h
  · cases h
def rStrI : List V → Hp → VK → Prop := fun xs H Q => ∃ i, xs = [.int i] ∧ i.natAbs.log2 < 1920 ∧ Q (.str (toString i)) H
def cStr : List D → Option D
  | [.int i] => if i.natAbs.log2 < 1920 then some (.str (toString i)) else none
  | _ => none
theorem hc_str : CbD K rStrI cStr := by
  intro Hx H xs ds z ex r h Q q
  unfold cStr at h
  split at h
  · obtain ⟨v, rfl, rv⟩ := r.one_is
    split at h
    · rename_i hl
      cases h
      cases rv
      exact ⟨_, rfl, hl, q _ _ _ (.refl ex) (.str _)⟩
    · cases h
  · cases h
def rAbs : List V → Hp → VK → Prop := fun xs H Q => ∃ i, xs = [.int i] ∧ Q (.int (if i < 0 then -i else i)) H
def cAbs : List D → Option D
  | [.int i] => some (.int (if i < 0 then -i else i))
  | _ => none
theorem hc_abs : CbD K rAbs cAbs := by
  intro Hx H xs ds z ex r h Q q
  unfold cAbs at h
  split at h
  · obtain ⟨v, rfl, rv⟩ := r.one_is
    cases h
    cases rv
    exact ⟨_, rfl, q _ _ _ (.refl ex) (.int _)⟩
  · cases h
def rMin2 : List V → Hp → VK → Prop := fun xs H Q => ∃ i j, xs = [.int i, .int j] ∧ Q (.int (if j < i then j else i)) H
def cMin2 : List D → Option D
  | [.int i, .int j] => some (.int (if j < i then j else i))
  | _ => none
theorem hc_min2 : CbD K rMin2 cMin2 := by
  intro Hx H xs ds z ex r h Q q
  unfold cMin2 at h
  split at h
  · obtain ⟨v, u, rfl, rv, ru⟩ := r.two_is
    cases h
    cases rv
    cases ru
    exact ⟨_, _, rfl, q _ _ _ (.refl ex) (.int _)⟩
  · cases h
def rMax2 : List V → Hp → VK → Prop := fun xs H Q => ∃ i j, xs = [.int i, .int j] ∧ Q (.int (if j > i then j else i)) H
def cMax2 : List D → Option D
  | [.int i, .int j] => some (.int (if j > i then j else i))
  | _ => none
theorem hc_max2 : CbD K rMax2 cMax2 := by
  intro Hx H xs ds z ex r h Q q
  unfold cMax2 at h
  split at h
  · obtain ⟨v, u, rfl, rv, ru⟩ := r.two_is
    cases h
    cases rv
    cases ru
    exact ⟨_, _, rfl, q _ _ _ (.refl ex) (.int _)⟩
  · cases h
def intsOf : List D → Option (List Int)
  | [] => some []
  | .int i :: ds => (intsOf ds).map (i :: ·)
  | _ :: _ => none
theorem intsOf_is : ∀ {ds : List D} {ns : List Int}, intsOf ds = some ns → ds = ns.map .int
  | [], ns, h => by
    cases h
    rfl
  | .int i :: ds, ns, h => by
    unfold intsOf at h
    cases e : intsOf ds with
    | none =>
      rw [e] at h
      cases h
    | some ms =>
      rw [e] at h
      cases h
      rw [intsOf_is e]
      rfl
  | .non :: _, _, h => by cases h
  | .bl _ :: _, _, h => by cases h
  | .str _ :: _, _, h => by cases h
  | .lst _ :: _, _, h => by cases h
  | .tup _ :: _, _, h => by cases h
  | .ins _ _ :: _, _, h => by cases h
  | .dic _ :: _, _, h => by cases h
  | .sq _ :: _, _, h => by cases h
  | .exn _ _ _ :: _, _, h => by cases h
@[simp] theorem intsOf_map : ∀ ns : List Int, intsOf (ns.map .int) = some ns
  | [] => rfl
  | n :: ns => by
    rw [List.map_cons]
    unfold intsOf
    rw [intsOf_map ns]
    rfl
def cSum : List D → Option D
  | [.lst xs] => (intsOf xs).map fun ns => .int ns.sum
  | _ => none
theorem hc_sum : CbD K (rSum K) cSum := by
  intro Hx H xs ds z ex r h Q q
  unfold cSum at h
  split at h
  · rename_i ys
    obtain ⟨v, rfl, rv⟩ := r.one_is
    cases e : intsOf ys with
    | none =>
      rw [e] at h
      cases h
    | some ns =>
      rw [e] at h
      cases h
      cases rv with
      | lst h1 h2 =>
        rw [intsOf_is e] at h2
        have e2 := h2.ints
        subst e2
        exact ⟨_, ns, rfl, SqL.of (ex _ _ h1), q _ _ _ (.refl ex) (.int _)⟩
  · cases h
def rTupOf (K : PySem.W.Frag) : List V → Hp → VK → Prop := fun xs H Q => ∃ p ys, xs = [.ref p] ∧ ((SqL K H p ys ∧ ∀ l, H l = none → Q (.ref l) (upd H l (.tup ys))) ∨ (SqT K H p ys ∧ Q (.ref p) H))
def cTuple : List D → Option D
  | [.lst xs] => some (.tup xs)
  | [.tup xs] => some (.tup xs)
  | _ => none
theorem hc_tuple : CbD K (rTupOf K) cTuple := by
  intro Hx H xs ds z ex r h Q q
  unfold cTuple at h
  split at h
  · obtain ⟨v, rfl, rv⟩ := r.one_is
    cases h
    cases rv with
    | lst h1 h2 =>
      refine ⟨_, _, rfl, .inl ⟨SqL.of (ex _ _ h1), fun l hl => ?_⟩⟩
      exact q _ _ _ (Gw.new ex hl) (.tup (SqT.of upd_same) (h2.mono (Gw.new ex hl).1))
  · obtain ⟨v, rfl, rv⟩ := r.one_is
    cases h
    cases rv with
    | tup h1 h2 => exact ⟨_, _, rfl, .inr ⟨ex_t ex h1, q _ _ _ (.refl ex) (.tup h1 h2)⟩⟩
  · cases h
def cGcd : List D → Option D
  | [.int a, .int b] => some (.int ((Nat.gcd a.natAbs b.natAbs : Nat) : Int))
  | _ => none
theorem hc_gcd : CbD K rGcd cGcd := by
  intro Hx H xs ds z ex r h Q q
  unfold cGcd at h
  split at h
  · obtain ⟨v, u, rfl, rv, ru⟩ := r.two_is
    cases h
    cases rv
    cases ru
    exact ⟨_, _, rfl, q _ _ _ (.refl ex) (.int _)⟩
  · cases h
/-! ### new lists -/
def NbD (P : Program) (w : World) (K : PySem.W.Frag) (r : List V → Hp → VK → Prop) (f : List D → Option NO) : Prop := ∀ (Hx H : Hp) (xs : List V) (ds : List D) (z : NO), Ex Hx H → RA K Hx xs ds → f ds = some z →
  ∀ Q : VK, (∀ p ho Hx' H', Gw Hx H Hx' H' → H p = none → Hx' p = none → H' p = some ho → RN P w K Hx' p ho z → Q (.ref p) H') → r xs H Q
def nCb (f : List D → Option NO) (as : Rs (List D)) : Rs NO := as.bind fun xs => ofO (f xs)
theorem ev_ncb {r : List V → Hp → VK → Prop} {f : List D → Option NO} {ta : TA} {as : Rs (List D)} (ho : NbD P w K r f) (h : EvA K W ta δ as) : EvN P w K W (tCB r ta) δ (nCb f as) := by
  intro Hx H σ env Q p
  refine h Hx H σ env _ (p.seq ?_)
  rintro xs H1 ⟨Hx1, ds, g, rx, p1⟩
  obtain ⟨z, hz, p1⟩ := p1.ofO
  exact ho Hx1 H1 xs ds z g.2.2.1 rx hz Q p1
/-- a list laid at a free place -/
theorem laid {Hx H : Hp} {vs : List V} {ds : List D} {Q : VK} (ex : Ex Hx H) (r : RA K Hx vs ds) (q : ∀ p ho Hx' H', Gw Hx H Hx' H' → H p = none → Hx' p = none → H' p = some ho → RN P w K Hx' p ho (.lst ds) → Q (.ref p) H') :
    ∀ l, H l = none → Q (.ref l) (upd H l (.lst vs)) := fun l hl => by
  have e : Ex H (upd H l (.lst vs)) := Evl.Ex.new hl
  exact q l _ Hx _ ⟨.refl _, e, ex.trans e, fun _ _ h _ => h⟩ hl (fresh_back ex hl) upd_same ⟨vs, rfl, r⟩
def rListOf (K : PySem.W.Frag) : List V → Hp → VK → Prop := fun xs H Q => ∃ p ys, xs = [.ref p] ∧ (SqL K H p ys ∨ SqT K H p ys) ∧ ∀ l, H l = none → Q (.ref l) (upd H l (.lst ys))
def cList : List D → Option NO
  | [.lst xs] => some (.lst xs)
  | [.tup xs] => some (.lst xs)
  | [.sq ns] => some (.lst (ns.map .int))
  | _ => none
theorem hn_list : NbD P w K (rListOf K) cList := by
  intro Hx H xs ds z ex r h Q q
  unfold cList at h
  split at h
  · obtain ⟨v, rfl, rv⟩ := r.one_is
    cases h
    cases rv with
    | lst h1 h2 => exact ⟨_, _, rfl, .inl (SqL.of (ex _ _ h1)), laid ex h2 q⟩
  · obtain ⟨v, rfl, rv⟩ := r.one_is
    cases h
    cases rv with
    | tup h1 h2 => exact ⟨_, _, rfl, .inr (ex_t ex h1), laid ex h2 q⟩
  · obtain ⟨v, rfl, rv⟩ := r.one_is
    cases h
    cases rv with
    | sq h1 => exact ⟨_, _, rfl, .inl (ex_l ex h1), laid ex (.ofInts _) q⟩
  · cases h
def nLst (as : Rs (List D)) : Rs NO := as.bind fun xs => if xs.length ≤ sizeLine then .ok (.lst xs) else .bad
theorem ev_lst {ta : TA} {as : Rs (List D)} (h : EvA K W ta δ as) : EvN P w K W (tLst ta) δ (nLst as) := by
  intro Hx H σ env Q p
  refine h Hx H σ env _ (p.seq ?_)
  rintro xs H1 ⟨Hx1, ds, g, rx, p1⟩
  split at p1
  · rename_i hl
    exact ⟨by rw [rx.length]; exact hl, laid g.2.2.1 rx p1⟩
  · exact p1.elim
theorem ev_dicNew : EvN P w K W tDNewK δ (.ok (.dic [])) := by
  intro Hx H σ env Q p q hq
  have e : Ex H (upd H q (.dK [])) := Evl.Ex.new hq
  exact p q _ Hx _ ⟨.refl _, e, env.ex.trans e, fun _ _ h _ => h⟩ hq (fresh_back env.ex hq) upd_same ⟨[], rfl, .nil⟩
theorem ev_setNew : EvN P w K W (tCB (rSet0K P w) tNil) δ (.ok (.kset [])) := by
  intro Hx H σ env Q p
  refine ⟨rfl, fun q hq => ?_⟩
  have e : Ex H (upd H q (SetK P w q (fun _ => false) 0)) := Evl.Ex.new hq
  exact p q _ Hx _ ⟨.refl _, e, env.ex.trans e, fun _ _ h _ => h⟩ hq (fresh_back env.ex hq) upd_same ⟨_, 0, rfl, Nat.zero_le _, fun k => rfl⟩
/-! ### slices -/
def oPart (a : Rs D) : Rs (Option Int) := a.bind fun x => match x with
  | .int i => .ok (some i)
  | _ => .bad
theorem ev_noPart : EvO K W tNoPart δ (.ok none) := fun Hx H σ env Q p => p none Hx H (.refl env.ex) rfl
theorem ev_part {te : TE} {a : Rs D} (h : EvD K W te δ a) : EvO K W (tPart te) δ (oPart a) := by
  intro Hx H σ env Q p
  refine h Hx H σ env _ (p.seq ?_)
  rintro x H1 ⟨Hx1, d, g, rx, p1⟩
  cases rx with
  | int i => exact ⟨i, rfl, p1 _ Hx1 H1 (.refl g.2.2.1) rfl⟩
  | _ => exact p1.elim
def rSl3 (K : PySem.W.Frag) : V → Option Int → Option Int → Hp → VK → Prop := fun x lo hi H Q => rSlL K x lo hi H Q ∨ rSlA K x lo hi H Q ∨ rSlS x lo hi H Q
theorem sl_any : SlR X (rSl3 X.K) := sl_list.or (sl_tupA.or sl_str)
def cutD (xs : List D) (lo hi : Option Int) : List D := (xs.drop (HT.sIx xs.length 0 lo)).take (HT.sIx xs.length xs.length hi - HT.sIx xs.length 0 lo)
def dSl (x : D) (lo hi : Option Int) : Option D := match x with
  | .lst xs => some (.lst (cutD xs lo hi))
  | .tup xs => some (.tup (cutD xs lo hi))
  | .str z => if z.length ≤ sizeLine then some (.str (cutS z lo hi)) else none
  | _ => none
theorem cut_R {H : Hp} {vs : List V} {ds : List D} {lo hi : Option Int} (r : RA K H vs ds) : RA K H (cutV vs lo hi) (cutD ds lo hi) := by
  unfold cutV cutD
  rw [r.length]
  exact (r.drop _).take _
def eSl (a : Rs D) (lo hi : Rs (Option Int)) : Rs D := a.bind fun x => lo.bind fun l => hi.bind fun h => ofO (dSl x l h)
theorem ev_sl {te : TE} {tl th : TO} {a : Rs D} {lo hi : Rs (Option Int)} (h : EvD K W te δ a) (hl : EvO K W tl δ lo) (hh : EvO K W th δ hi) : EvD K W (tSl (rSl3 K) te tl th) δ (eSl a lo hi) := by
  intro Hx H σ env Q p
  refine h Hx H σ env _ (p.seq ?_)
  rintro x H1 ⟨Hx1, d, g, rx, p1⟩
  refine hl Hx1 H1 σ (env.gw g) _ (p1.seq ?_)
  rintro l H2 ⟨Hx2, l', g2, rl, p2⟩
  cases rl
  refine hh Hx2 H2 σ ((env.gw g).gw g2) _ (p2.seq ?_)
  rintro u H3 ⟨Hx3, u', g3, ru, p3⟩
  cases ru
  obtain ⟨z, hz, p3⟩ := p3.ofO
  have ex := g3.2.2.1
  have rx := (rx.mono g2.1).mono g3.1
  unfold dSl at hz
  split at hz
  · cases hz
    cases rx with
    | lst h1 h2 =>
      refine .inl ⟨_, _, rfl, SqL.of (ex _ _ h1), fun q hq => ?_⟩
      exact p3 _ _ _ (Gw.new ex hq) (.lst upd_same ((cut_R h2).mono (Gw.new ex hq).1))
  · cases hz
    cases rx with
    | tup h1 h2 =>
      refine .inr (.inl ⟨_, _, rfl, ex_t ex h1, fun e => ?_, fun e q hq => ?_⟩)
      · refine p3 _ _ _ (.refl ex) ?_
        have e2 : ∀ (ys : List D), ys.length = _ → cutD ys l u = ys := fun ys hy => by
          unfold cutD
          rw [hy, e.1, e.2]
          simp [← hy]
        rw [e2 _ h2.length.symm]
        exact .tup h1 h2
      · exact p3 _ _ _ (Gw.new ex hq) (.tup (SqT.of upd_same) ((cut_R h2).mono (Gw.new ex hq).1))
  · split at hz
    · rename_i hl
      cases hz
      cases rx
      exact .inr (.inr ⟨_, rfl, hl, p3 _ _ _ (.refl ex) (.str _)⟩)
    · cases hz
  · cases hz
/-! ### methods of built-in types -/
/-- what type -/
def isT (T : String) : D → Bool
  | .str _ => T == "str"
  | .lst _ => T == "list"
  | .dic _ => T == "dict"
  | _ => false
theorem tyV_R {Hx H : Hp} {T : String} {v : V} {d : D} (ex : Ex Hx H) (r : R K Hx v d) (h : isT T d = true) : tyV K T v H := by
  cases r with
  | str x => exact eq_of_beq h
  | lst h1 h2 => exact .inl ⟨eq_of_beq h, _, SqL.of (ex _ _ h1)⟩
  | dic h1 h2 => exact .inr (.inr (.inl ⟨eq_of_beq h, .inl ⟨_, ex _ _ h1⟩⟩))
  | _ => cases h
def MbD (K : PySem.W.Frag) (r : V → List V → Hp → VK → Prop) (f : D → List D → Option D) : Prop := ∀ (Hx H : Hp) (x : V) (xs : List V) (d : D) (ds : List D) (z : D), Ex Hx H → R K Hx x d → RA K Hx xs ds → f d ds = some z →
  ∀ Q : VK, (∀ v Hx' H', Gw Hx H Hx' H' → R K Hx' v z → Q v H') → r x xs H Q
def eMb (T : String) (f : D → List D → Option D) (a : Rs D) (as : Rs (List D)) : Rs D := a.bind fun x => if isT T x = true then as.bind fun xs => ofO (f x xs) else .bad
theorem ev_mb {T : String} {r : V → List V → Hp → VK → Prop} {f : D → List D → Option D} {to : TE} {ta : TA} {a : Rs D} {as : Rs (List D)} (ho : MbD K r f) (h1 : EvD K W to δ a) (h2 : EvA K W ta δ as) : EvD K W (tBM K T r to ta) δ (eMb T f a as) := by
  intro Hx H σ env Q p
  refine h1 Hx H σ env _ (p.seq ?_)
  rintro x H1 ⟨Hx1, d, g, rx, p1⟩
  split at p1
  · rename_i ht
    refine ⟨tyV_R g.2.2.1 rx ht, h2 Hx1 H1 σ (env.gw g) _ (p1.seq ?_)⟩
    rintro xs H2 ⟨Hx2, ds, g2, rxs, p2⟩
    obtain ⟨z, hz, p2⟩ := p2.ofO
    exact ho Hx2 H2 x xs d ds z g2.2.2.1 (rx.mono g2.1) rxs hz Q p2
  · exact p1.elim
theorem ev_mb0 {T : String} {r : V → List V → Hp → VK → Prop} {f : D → List D → Option D} {to : TE} {a : Rs D} (ho : MbD K r f) (h1 : EvD K W to δ a) : EvD K W (tBM0 K T r to) δ (eMb T f a (.ok [])) := by
  intro Hx H σ env Q p
  refine h1 Hx H σ env _ (p.seq ?_)
  rintro x H1 ⟨Hx1, d, g, rx, p1⟩
  split at p1
  · rename_i ht
    obtain ⟨z, hz, p2⟩ := Pst.ofO (Rel := RelD K) (o := f d []) p1
    exact ⟨tyV_R g.2.2.1 rx ht, ho Hx1 H1 x [] d [] z g.2.2.1 rx .nil hz Q p2⟩
  · exact p1.elim
def NmD (P : Program) (w : World) (K : PySem.W.Frag) (r : V → List V → Hp → VK → Prop) (f : D → List D → Option NO) : Prop := ∀ (Hx H : Hp) (x : V) (xs : List V) (d : D) (ds : List D) (z : NO), Ex Hx H → R K Hx x d → RA K Hx xs ds → f d ds = some z →
  ∀ Q : VK, (∀ p ho Hx' H', Gw Hx H Hx' H' → H p = none → Hx' p = none → H' p = some ho → RN P w K Hx' p ho z → Q (.ref p) H') → r x xs H Q
def nMb (T : String) (f : D → List D → Option NO) (a : Rs D) (as : Rs (List D)) : Rs NO := a.bind fun x => if isT T x = true then as.bind fun xs => ofO (f x xs) else .bad
theorem ev_nmb {T : String} {r : V → List V → Hp → VK → Prop} {f : D → List D → Option NO} {to : TE} {ta : TA} {a : Rs D} {as : Rs (List D)} (ho : NmD P w K r f) (h1 : EvD K W to δ a) (h2 : EvA K W ta δ as) : EvN P w K W (tBM K T r to ta) δ (nMb T f a as) := by
  intro Hx H σ env Q p
  refine h1 Hx H σ env _ (p.seq ?_)
  rintro x H1 ⟨Hx1, d, g, rx, p1⟩
  split at p1
  · rename_i ht
    refine ⟨tyV_R g.2.2.1 rx ht, h2 Hx1 H1 σ (env.gw g) _ (p1.seq ?_)⟩
    rintro xs H2 ⟨Hx2, ds, g2, rxs, p2⟩
    obtain ⟨z, hz, p2⟩ := p2.ofO
    exact ho Hx2 H2 x xs d ds z g2.2.2.1 (rx.mono g2.1) rxs hz Q p2
  · exact p1.elim
/-- a text's method of one text -/
def rS1 (C : Str → Str → Prop) (g : Str → Str → V) : V → List V → Hp → VK → Prop := fun x xs H Q => ∃ a b, x = .str a ∧ xs = [.str b] ∧ C a b ∧ Q (g a b) H
def mStarts (x : D) (xs : List D) : Option D := match x, xs with
  | .str a, [.str b] => some (.bl (Txt.startswith a b))
  | _, _ => none
def mEnds (x : D) (xs : List D) : Option D := match x, xs with
  | .str a, [.str b] => some (.bl (Txt.endswith a b))
  | _, _ => none
def mRemPre (x : D) (xs : List D) : Option D := match x, xs with
  | .str a, [.str b] => if a.length ≤ sizeLine then some (.str (Txt.removeprefix a b)) else none
  | _, _ => none
def mRemSuf (x : D) (xs : List D) : Option D := match x, xs with
  | .str a, [.str b] => if a.length ≤ sizeLine then some (.str (Txt.removesuffix a b)) else none
  | _, _ => none
def mUpper (x : D) (xs : List D) : Option D := match x, xs with
  | .str a, [] => if a.length ≤ 5592405 then some (.str (Txt.upper a)) else none
  | _, _ => none
theorem hm_starts : MbD K (fun x xs H Q => ∃ a b, x = .str a ∧ xs = [.str b] ∧ Q (.bl (Txt.startswith a b)) H) mStarts := by
  intro Hx H x xs d ds z ex rx rxs h Q q
  unfold mStarts at h
  split at h
  · obtain ⟨v, rfl, rv⟩ := rxs.one_is
    cases h
    cases rx
    cases rv
    exact ⟨_, _, rfl, rfl, q _ _ _ (.refl ex) (.bl _)⟩
  · cases h
theorem hm_ends : MbD K (fun x xs H Q => ∃ a b, x = .str a ∧ xs = [.str b] ∧ Q (.bl (Txt.endswith a b)) H) mEnds := by
  intro Hx H x xs d ds z ex rx rxs h Q q
  unfold mEnds at h
  split at h
  · obtain ⟨v, rfl, rv⟩ := rxs.one_is
    cases h
    cases rx
    cases rv
    exact ⟨_, _, rfl, rfl, q _ _ _ (.refl ex) (.bl _)⟩
  · cases h
theorem hm_rempre : MbD K (fun x xs H Q => ∃ a b, x = .str a ∧ xs = [.str b] ∧ a.length ≤ sizeLine ∧ Q (.str (Txt.removeprefix a b)) H) mRemPre := by
  intro Hx H x xs d ds z ex rx rxs h Q q
  unfold mRemPre at h
  split at h
  · split at h
    · rename_i hl
      obtain ⟨v, rfl, rv⟩ := rxs.one_is
      cases h
      cases rx
      cases rv
      exact ⟨_, _, rfl, rfl, hl, q _ _ _ (.refl ex) (.str _)⟩
    · cases h
  · cases h
theorem hm_remsuf : MbD K (fun x xs H Q => ∃ a b, x = .str a ∧ xs = [.str b] ∧ a.length ≤ sizeLine ∧ Q (.str (Txt.removesuffix a b)) H) mRemSuf := by
  intro Hx H x xs d ds z ex rx rxs h Q q
  unfold mRemSuf at h
  split at h
  · split at h
    · rename_i hl
      obtain ⟨v, rfl, rv⟩ := rxs.one_is
      cases h
      cases rx
      cases rv
      exact ⟨_, _, rfl, rfl, hl, q _ _ _ (.refl ex) (.str _)⟩
    · cases h
  · cases h
theorem hm_upper : MbD K (fun x xs H Q => ∃ a, x = .str a ∧ xs = [] ∧ a.length ≤ 5592405 ∧ Q (.str (Txt.upper a)) H) mUpper := by
  intro Hx H x xs d ds z ex rx rxs h Q q
  unfold mUpper at h
  split at h
  · split at h
    · rename_i hl
      cases rxs
      cases h
      cases rx
      exact ⟨_, rfl, rfl, hl, q _ _ _ (.refl ex) (.str _)⟩
    · cases h
  · cases h
def strsOf : List D → Option (List Str)
  | [] => some []
  | .str i :: ds => (strsOf ds).map (i :: ·)
  | _ :: _ => none
theorem strsOf_is : ∀ {ds : List D} {ns : List Str}, strsOf ds = some ns → ds = ns.map .str
  | [], ns, h => by
    cases h
    rfl
  | .str i :: ds, ns, h => by
    unfold strsOf at h
    cases e : strsOf ds with
    | none =>
      rw [e] at h
      cases h
    | some ms =>
      rw [e] at h
      cases h
      rw [strsOf_is e]
      rfl
  | .non :: _, _, h => by cases h
  | .bl _ :: _, _, h => by cases h
  | .int _ :: _, _, h => by cases h
  | .lst _ :: _, _, h => by cases h
  | .tup _ :: _, _, h => by cases h
  | .ins _ _ :: _, _, h => by cases h
  | .dic _ :: _, _, h => by cases h
  | .sq _ :: _, _, h => by cases h
  | .exn _ _ _ :: _, _, h => by cases h
@[simp] theorem strsOf_map : ∀ ns : List Str, strsOf (ns.map .str) = some ns
  | [] => rfl
  | n :: ns => by
    rw [List.map_cons]
    unfold strsOf
    rw [strsOf_map ns]
    rfl
def joinOk (a : Str) (ys : List Str) : Option D := if (ys.map (·.length)).sum + ys.length * a.length ≤ 16777216 then some (.str (Txt.join a ys)) else none
def mJoin (x : D) (xs : List D) : Option D := match x, xs with
  | .str a, [.lst ds] => (strsOf ds).bind (joinOk a)
  | .str a, [.tup ds] => (strsOf ds).bind (joinOk a)
  | _, _ => none
theorem hm_join : MbD K (fun x xs H Q => ∃ a p, ∃ ys : List Str, x = .str a ∧ xs = [.ref p] ∧ (SqL K H p (ys.map V.str) ∨ SqT K H p (ys.map V.str)) ∧
    (ys.map (·.length)).sum + ys.length * a.length ≤ 16777216 ∧ Q (.str (Txt.join a ys)) H) mJoin := by
  intro Hx H x xs d ds z ex rx rxs h Q q
  unfold mJoin at h
  split at h
  · rename_i a es
    obtain ⟨v, rfl, rv⟩ := rxs.one_is
    cases e : strsOf es with
    | none =>
      rw [e] at h
      cases h
    | some ys =>
      rw [e] at h
      have h : joinOk a ys = some z := h
      unfold joinOk at h
      split at h
      · rename_i hl
        cases h
        cases rx
        cases rv with
        | lst h1 h2 =>
          rw [strsOf_is e] at h2
          have e2 := h2.strs
          subst e2
          exact ⟨_, _, ys, rfl, rfl, .inl (SqL.of (ex _ _ h1)), hl, q _ _ _ (.refl ex) (.str _)⟩
      · cases h
  · rename_i a es
    obtain ⟨v, rfl, rv⟩ := rxs.one_is
    cases e : strsOf es with
    | none =>
      rw [e] at h
      cases h
    | some ys =>
      rw [e] at h
      have h : joinOk a ys = some z := h
      unfold joinOk at h
      split at h
      · rename_i hl
        cases h
        cases rx
        cases rv with
        | tup h1 h2 =>
          rw [strsOf_is e] at h2
          have e2 := h2.strs
          subst e2
          exact ⟨_, _, ys, rfl, rfl, .inr (ex_t ex h1), hl, q _ _ _ (.refl ex) (.str _)⟩
      · cases h
  · cases h
def mSplit (x : D) (xs : List D) : Option NO := match x, xs with
  | .str a, [.str b] => if ((b.length == 0) = false) ∧ a.length + 2 ≤ sizeLine then some (.lst ((Txt.split a b).map .str)) else none
  | _, _ => none
theorem hm_split : NmD P w K (fun x xs H Q => ∃ a b, x = .str a ∧ xs = [.str b] ∧ (b.length == 0) = false ∧ a.length + 2 ≤ sizeLine ∧ rNewStrs (Txt.split a b) H Q) mSplit := by
  intro Hx H x xs d ds z ex rx rxs h Q q
  unfold mSplit at h
  split at h
  · split at h
    · rename_i hl
      obtain ⟨v, rfl, rv⟩ := rxs.one_is
      cases h
      cases rx
      cases rv
      exact ⟨_, _, rfl, rfl, hl.1, hl.2, laid ex (.ofStrs _) q⟩
    · cases h
  · cases h
/-! ### a list's index -/
def idxD (x : D) : List D → Nat → Option Nat
  | [], _ => none
  | d :: ds, n => if flatEq d x = true then some n else idxD x ds (n + 1)
def mIndex (x : D) (xs : List D) : Option D := match x, xs with
  | .lst ds, [y] => if (flatD y && ds.all flatD) = true then (idxD y ds 0).map fun n => .int (n : Nat) else none
  | _, _ => none
theorem idxD_is {x : D} : ∀ {ds : List D} {n j : Nat}, idxD x ds n = some j → n ≤ j ∧ (∃ z, ds[j - n]? = some z ∧ flatEq z x = true) ∧ ∀ m z, m < j - n → ds[m]? = some z → flatEq z x = false
  | [], _, _, h => by cases h
  | d :: ds, n, j, h => by
    unfold idxD at h
    split at h
    · rename_i hd
      cases h
      refine ⟨Nat.le_refl _, ⟨d, by simp, hd⟩, fun m z hm => ?_⟩
      omega
    · rename_i hd
      obtain ⟨h1, ⟨z, h2, h3⟩, h4⟩ := idxD_is h
      refine ⟨by omega, ⟨z, ?_, h3⟩, fun m u hm hu => ?_⟩
      · have e : j - n = (j - (n + 1)) + 1 := by omega
        rw [e, List.getElem?_cons_succ]
        exact h2
      · cases m with
        | zero =>
          simp at hu
          subst hu
          simpa using hd
        | succ m =>
          rw [List.getElem?_cons_succ] at hu
          exact h4 m u (by omega) hu
theorem hm_index : MbD K (rIndex K) mIndex := by
  intro Hx H x xs d ds z ex rx rxs h Q q
  unfold mIndex at h
  split at h
  · rename_i es y
    split at h
    · rename_i hf
      simp only [Bool.and_eq_true] at hf
      obtain ⟨v, rfl, rv⟩ := rxs.one_is
      cases hi : idxD y es 0 with
      | none =>
        rw [hi] at h
        cases h
      | some j =>
        rw [hi] at h
        cases h
        obtain ⟨_, ⟨u, h2, h3⟩, h4⟩ := idxD_is hi
        cases rx with
        | lst g1 g2 =>
          obtain ⟨uv, e1, e2⟩ := g2.get (by simpa using h2)
          refine ⟨_, _, v, j, uv, rfl, rfl, SqL.of (ex _ _ g1), by rw [flatV_R rv]; exact hf.1, by rw [flatVs_R g2]; exact hf.2, e1, by rw [eqV_R e2 rv]; exact h3, ?_⟩
          first
            | exact ⟨fun m z' hm hz => (by
                obtain ⟨dz, e3, e4⟩ := g2.getV hz
                rw [eqV_R e4 rv]
                exact h4 m dz (by omega) e3), q _ _ _ (.refl ex) (.int _)⟩
            | skip
    · cases h
  · cases h
end
end DL
set_option Elab.async false
set_option linter.all false
set_option maxRecDepth 100000
set_option maxHeartbeats 4000000
/-! The data layer, 7: objects that change, tests in statements, isinstance, f-strings, instances, raise. -/
namespace DL
open PySem PySem.Spec PyProof.Rows L2
open Evl (Ex ex_l ex_t fresh_back)
set_option autoImplicit false
section
variable {P : Program} {w : World} {K : PySem.W.Frag} {W : WX} {δ : Dv}

/-! ### tests of statements -/
def tAndS (a b : S → Rs Bool) (s : S) : Rs Bool := (a s).bind fun x => if x = true then b s else .ok false
def tOrS (a b : S → Rs Bool) (s : S) : Rs Bool := (a s).bind fun x => if x = true then .ok true else b s
def tNotS (a : S → Rs Bool) (s : S) : Rs Bool := (a s).bind fun x => .ok (!x)
theorem PsT.later {B0 H0 Hb H Hb1 H1 : Hp} {A0 : List Addr} {ρ : List Addr} {σ : L2.St} {s : S} {Q : Bool → Hp → Prop} {r : Rs Bool} (p : PsT P w K W B0 H0 A0 ρ Hb H σ s Q r) (g : Ex Hb Hb1) : PsT P w K W B0 H0 A0 ρ Hb1 H1 σ s Q r := by
  cases r with
  | ok b => exact fun Hb' H' e F => p Hb' H' (g.trans e) F
  | exc e => exact fun c dd Hb' H' x F => p c dd Hb' H' (g.trans x) F
  | bad => exact p
theorem xt_and {t u : TT} {a b : S → Rs Bool} (h1 : EvT P w K W t a) (h2 : EvT P w K W u b) : EvT P w K W (tAnd t u) (tAndS a b) := by
  intro s B0 H0 A0 ρ Hb H σ F Q p
  refine h1 s B0 H0 A0 ρ Hb H σ F _ ?_
  unfold tAndS at p
  cases e : a s with
  | ok x =>
    rw [e] at p
    intro Hb' H' g F'
    cases x with
    | true => exact iteT (h2 s B0 H0 A0 ρ Hb' H' σ F' Q (PsT.later p g))
    | false => exact iteF (p Hb' H' g F')
  | exc x =>
    rw [e] at p
    exact p
  | bad =>
    rw [e] at p
    exact p
theorem xt_or {t u : TT} {a b : S → Rs Bool} (h1 : EvT P w K W t a) (h2 : EvT P w K W u b) : EvT P w K W (tOr t u) (tOrS a b) := by
  intro s B0 H0 A0 ρ Hb H σ F Q p
  refine h1 s B0 H0 A0 ρ Hb H σ F _ ?_
  unfold tOrS at p
  cases e : a s with
  | ok x =>
    rw [e] at p
    intro Hb' H' g F'
    cases x with
    | false => exact iteF (h2 s B0 H0 A0 ρ Hb' H' σ F' Q (PsT.later p g))
    | true => exact iteT (p Hb' H' g F')
  | exc x =>
    rw [e] at p
    exact p
  | bad =>
    rw [e] at p
    exact p
theorem xt_not {t : TT} {a : S → Rs Bool} (h1 : EvT P w K W t a) : EvT P w K W (tNot t) (tNotS a) := by
  intro s B0 H0 A0 ρ Hb H σ F Q p
  refine h1 s B0 H0 A0 ρ Hb H σ F _ ?_
  unfold tNotS at p
  cases e : a s with
  | ok x =>
    rw [e] at p
    exact fun Hb' H' g F' => p Hb' H' g F'
  | exc x =>
    rw [e] at p
    exact p
  | bad =>
    rw [e] at p
    exact p

/-! ### the def's own objects -/
def cellOf (s : S) : Xv → Option (Nat × OO)
  | .cell k => match s.ce[k]? with
    | some (some o) => some (k, o)
    | _ => none
  | _ => none
theorem cellOf_is {s : S} {x : Xv} {k : Nat} {o : OO} (h : cellOf s x = some (k, o)) : x = .cell k ∧ s.ce[k]? = some (some o) := by
  cases x with
  | dat d => cases h
  | cell j =>
    unfold cellOf at h
    dsimp only at h
    split at h
    · rename_i o' e
      cases h
      exact ⟨rfl, e⟩
    · cases h
theorem Fr.cell {B0 H0 : Hp} {A0 : List Addr} {ρ : List Addr} {Hb H : Hp} {σ : L2.St} {s : S} {v : V} {x : Xv} {k : Nat} {o : OO} (F : Fr P w K B0 H0 A0 ρ Hb H σ s) (r : RX K ρ Hb v x) (h : cellOf s x = some (k, o)) :
    ∃ a ho, v = .ref a ∧ ρ[k]? = some a ∧ H a = some ho ∧ RO P w K ρ Hb a ho o ∧ s.ce[k]? = some (some o) := by
  obtain ⟨rfl, hk⟩ := cellOf_is h
  obtain ⟨a, ha, rfl⟩ := r
  obtain ⟨a', ho, h1, h2, h3, h4⟩ := F.ce k o hk
  rw [ha] at h1
  cases h1
  exact ⟨a, ho, rfl, ha, h3, h4, hk⟩
def S.setCell (s : S) (k : Nat) (o : OO) : S := { s with ce := s.ce.set k (some o) }
/-- an expression, then another, in a statement -/
theorem PsX.seq {B0 H0 : Hp} {A0 : List Addr} {ρ : List Addr} {Hb H : Hp} {σ : L2.St} {s : S} {E : Ends} {f : Xv → Out} {r : Rs Xv} {Q : V → Hp → Prop} (m : Mt P w K W B0 H0 A0 Hb E (oX s r f))
    (k : ∀ v x Hb' H', Ex Hb Hb' → Fr P w K B0 H0 A0 ρ Hb' H' σ s → RX K ρ Hb' v x → Mt P w K W B0 H0 A0 Hb' E (f x) → Q v H') : PsX P w K W B0 H0 A0 ρ Hb H σ s Q r := by
  cases r with
  | ok x => exact fun v Hb' H' g _ F' rx => k v x Hb' H' g F' rx (Mt.later m g)
  | exc e => exact fun cls dd Hb' H' g F' x => m cls dd ρ Hb' H' σ g F' x
  | bad => exact m
/-- xs.append(e) -/
def sApp (mo me : S → Rs Xv) (s : S) : Out := oX s (mo s) fun c => match cellOf s c with
  | some (k, .lst xs) => oX s (me s) fun x => if xs.length < sizeLine then .nx (s.setCell k (.lst (xs ++ [x]))) else .bad
  | _ => .bad
theorem xs_len {ρ : List Addr} {Hb : Hp} {vs : List V} {xs : List Xv} (r : RXs K ρ Hb vs xs) : vs.length = xs.length := Paired.length r
theorem xs_app {ρ : List Addr} {Hb : Hp} {vs us : List V} {xs ys : List Xv} (r : RXs K ρ Hb vs xs) (r2 : RXs K ρ Hb us ys) : RXs K ρ Hb (vs ++ us) (xs ++ ys) := by
  induction r with
  | nil => exact r2
  | cons r _ ih => exact .cons r ih
theorem xs_set {ρ : List Addr} {Hb : Hp} {vs : List V} {xs : List Xv} {v : V} {x : Xv} (rx : RX K ρ Hb v x) (r : RXs K ρ Hb vs xs) : ∀ (i : Nat), RXs K ρ Hb (vs.set i v) (xs.set i x) := by
  induction r with
  | nil => exact fun _ => .nil
  | cons q t ih =>
    intro i
    cases i with
    | zero => exact .cons rx t
    | succ i => exact .cons q (ih i)
theorem xs_take {ρ : List Addr} {Hb : Hp} {vs : List V} {xs : List Xv} (r : RXs K ρ Hb vs xs) : ∀ (i : Nat), RXs K ρ Hb (vs.take i) (xs.take i) := by
  induction r with
  | nil => exact fun i => by simp; exact .nil
  | cons q t ih =>
    intro i
    cases i with
    | zero => exact .nil
    | succ i => exact .cons q (ih i)
theorem xs_drop {ρ : List Addr} {Hb : Hp} {vs : List V} {xs : List Xv} (r : RXs K ρ Hb vs xs) : ∀ (i : Nat), RXs K ρ Hb (vs.drop i) (xs.drop i) := by
  induction r with
  | nil => exact fun i => by simp; exact .nil
  | cons q t ih =>
    intro i
    cases i with
    | zero => exact .cons q t
    | succ i => exact ih i
theorem xs_get {ρ : List Addr} {Hb : Hp} {vs : List V} {xs : List Xv} (r : RXs K ρ Hb vs xs) : ∀ {i : Nat} {x : Xv}, xs[i]? = some x → ∃ v, vs[i]? = some v ∧ RX K ρ Hb v x := by
  induction r with
  | nil => exact fun h => by simp at h
  | @cons v x vs xs q t ih =>
    intro i y h
    cases i with
    | zero =>
      simp at h
      subst h
      exact ⟨v, rfl, q⟩
    | succ i => simpa using ih (by simpa using h)
theorem xs_erase {ρ : List Addr} {Hb : Hp} {vs : List V} {xs : List Xv} (r : RXs K ρ Hb vs xs) : ∀ (i : Nat), RXs K ρ Hb (vs.eraseIdx i) (xs.eraseIdx i) := by
  induction r with
  | nil => exact fun i => by simp; exact .nil
  | cons q t ih =>
    intro i
    cases i with
    | zero => exact t
    | succ i => exact .cons q (ih i)
theorem RX.up {ρ : List Addr} {Hb Hb' : Hp} {v : V} {x : Xv} (e : Ex Hb Hb') (h : RX K ρ Hb v x) : RX K ρ Hb' v x := h.mono e fun _ _ z => z
theorem lst_cell {B0 H0 : Hp} {A0 : List Addr} {ρ : List Addr} {Hb H : Hp} {σ : L2.St} {s : S} {v : V} {c : Xv} {k : Nat} {xs : List Xv} (F : Fr P w K B0 H0 A0 ρ Hb H σ s) (r : RX K ρ Hb v c) (h : cellOf s c = some (k, .lst xs)) :
    ∃ a vs, v = .ref a ∧ ρ[k]? = some a ∧ H a = some (.lst vs) ∧ RXs K ρ Hb vs xs ∧ s.ce[k]? = some (some (.lst xs)) := by
  obtain ⟨a, ho, h1, h2, h3, ⟨vs, rfl, h4⟩, h5⟩ := F.cell r h
  exact ⟨a, vs, h1, h2, h3, h4, h5⟩
theorem dic_cell {B0 H0 : Hp} {A0 : List Addr} {ρ : List Addr} {Hb H : Hp} {σ : L2.St} {s : S} {v : V} {c : Xv} {k : Nat} {xs : List (Key × Xv)} (F : Fr P w K B0 H0 A0 ρ Hb H σ s) (r : RX K ρ Hb v c) (h : cellOf s c = some (k, .dic xs)) :
    ∃ a vs, v = .ref a ∧ ρ[k]? = some a ∧ H a = some (.dK vs) ∧ RXk K ρ Hb vs xs ∧ s.ce[k]? = some (some (.dic xs)) := by
  obtain ⟨a, ho, h1, h2, h3, ⟨vs, rfl, h4⟩, h5⟩ := F.cell r h
  exact ⟨a, vs, h1, h2, h3, h4, h5⟩
theorem set_cell {B0 H0 : Hp} {A0 : List Addr} {ρ : List Addr} {Hb H : Hp} {σ : L2.St} {s : S} {v : V} {c : Xv} {k : Nat} {ks : List Key} (F : Fr P w K B0 H0 A0 ρ Hb H σ s) (r : RX K ρ Hb v c) (h : cellOf s c = some (k, .kset ks)) :
    ∃ a Sk n, v = .ref a ∧ ρ[k]? = some a ∧ H a = some (SetK P w a Sk n) ∧ n ≤ ks.length ∧ (∀ j, Sk j = ks.any fun q => decide (q = j)) ∧ s.ce[k]? = some (some (.kset ks)) := by
  obtain ⟨a, ho, h1, h2, h3, ⟨Sk, n, rfl, h4, h6⟩, h5⟩ := F.cell r h
  exact ⟨a, Sk, n, h1, h2, h3, h4, h6, h5⟩
theorem rn_app {to te : TE} {mo me : S → Rs Xv} (ho : EvX P w K W to mo) (he : EvX P w K W te me) : Rn P w K W (tDrop (tBM K "list" rAppend to (tCons te tNil))) (sApp mo me) := by
  intro s B0 H0 A0 ρ Hb H σ E F q
  refine ho s B0 H0 A0 ρ Hb H σ F _ (PsX.seq q ?_)
  intro v c Hb1 H1 g1 F1 rc q
  split at q
  · rename_i k xs hc
    obtain ⟨a, vs, rfl, ha, hh, r4, hk⟩ := lst_cell F1 rc hc
    refine ⟨.inl ⟨rfl, _, SqL.of hh⟩, ?_⟩
    refine he s B0 H0 A0 ρ Hb1 H1 σ F1 _ (PsX.seq q ?_)
    intro u x Hb2 H2 g2 F2 rx q
    split at q
    · rename_i hz
      obtain ⟨a', vs', e1, ha', hh', r4', _⟩ := lst_cell F2 (rc.up g2) hc
      cases e1
      refine ⟨a, vs', u, rfl, rfl, hh', by rw [xs_len r4']; exact hz, ?_⟩
      exact q ρ Hb2 _ σ (.refl _) (F2.write hk ha ⟨_, rfl, xs_app r4' (.cons rx .nil)⟩)
    · exact q.elim
  · exact q.elim
/-- xs.insert(i, e) -/
def sIns (mo mi me : S → Rs Xv) (s : S) : Out := oX s (mo s) fun c => match cellOf s c with
  | some (k, .lst xs) => oX s (mi s) fun iv => oX s (me s) fun x => match iv with
    | .dat (.int i) => if xs.length < sizeLine ∧ 0 ≤ i ∧ i < 2 ^ 63 then .nx (s.setCell k (.lst (xs.take i.toNat ++ [x] ++ xs.drop i.toNat))) else .bad
    | _ => .bad
  | _ => .bad
def rInsert : V → List V → Hp → VK → Prop := fun x vs H Q => ∃ (l : Addr) (xs : List V) (i : Int) (y : V), x = .ref l ∧ vs = [.int i, y] ∧ H l = some (.lst xs) ∧ xs.length < sizeLine ∧ 0 ≤ i ∧ i < 2 ^ 63 ∧
    Q .non (upd H l (.lst (xs.take i.toNat ++ [y] ++ xs.drop i.toNat)))
theorem rn_ins {to ti te : TE} {mo mi me : S → Rs Xv} (ho : EvX P w K W to mo) (hi : EvX P w K W ti mi) (he : EvX P w K W te me) : Rn P w K W (tDrop (tBM K "list" rInsert to (tCons ti (tCons te tNil)))) (sIns mo mi me) := by
  intro s B0 H0 A0 ρ Hb H σ E F q
  refine ho s B0 H0 A0 ρ Hb H σ F _ (PsX.seq q ?_)
  intro v c Hb1 H1 g1 F1 rc q
  split at q
  · rename_i k xs hc
    obtain ⟨a, vs, rfl, ha, hh, r4, hk⟩ := lst_cell F1 rc hc
    refine ⟨.inl ⟨rfl, _, SqL.of hh⟩, ?_⟩
    refine hi s B0 H0 A0 ρ Hb1 H1 σ F1 _ (PsX.seq q ?_)
    intro iv ix Hb2 H2 g2 F2 ri q
    refine he s B0 H0 A0 ρ Hb2 H2 σ F2 _ (PsX.seq q ?_)
    intro u x Hb3 H3 g3 F3 rx q
    cases ix with
    | cell _ => exact q.elim
    | dat d =>
      cases d with
      | int i =>
        have q : Mt P w K W B0 H0 A0 Hb3 E (if xs.length < sizeLine ∧ 0 ≤ i ∧ i < 2 ^ 63 then .nx (s.setCell k (.lst (xs.take i.toNat ++ [x] ++ xs.drop i.toNat))) else .bad) := q
        split at q
        · rename_i hz
          cases ri
          obtain ⟨a', vs', e1, ha', hh', r4', _⟩ := lst_cell F3 ((rc.up g2).up g3) hc
          cases e1
          refine ⟨a, vs', i, u, rfl, rfl, hh', by rw [xs_len r4']; exact hz.1, hz.2.1, hz.2.2, ?_⟩
          exact q ρ Hb3 _ σ (.refl _) (F3.write hk ha ⟨_, rfl, xs_app (xs_app (xs_take r4' _) (.cons rx .nil)) (xs_drop r4' _)⟩)
        · exact q.elim
      | _ => exact q.elim
  · exact q.elim
/-- xs[i] = e: e, then xs, then i -/
def sSetI (mo mi me : S → Rs Xv) (s : S) : Out := oX s (me s) fun x => oX s (mo s) fun c => oX s (mi s) fun iv => match cellOf s c, iv with
  | some (k, .lst xs), .dat (.int i) => match ixN xs.length i with
    | some j => .nx (s.setCell k (.lst (xs.set j x)))
    | none => .bad
  | _, _ => .bad
theorem rn_seti {to ti te : TE} {mo mi me : S → Rs Xv} (ho : EvX P w K W to mo) (hi : EvX P w K W ti mi) (he : EvX P w K W te me) : Rn P w K W (tAsg te (gSub to ti rSetL)) (sSetI mo mi me) := by
  intro s B0 H0 A0 ρ Hb H σ E F q
  refine he s B0 H0 A0 ρ Hb H σ F _ (PsX.seq q ?_)
  intro u x Hb1 H1 g1 F1 rx q
  refine ho s B0 H0 A0 ρ Hb1 H1 σ F1 _ (PsX.seq q ?_)
  intro v c Hb2 H2 g2 F2 rc q
  refine hi s B0 H0 A0 ρ Hb2 H2 σ F2 _ (PsX.seq q ?_)
  intro iv ix Hb3 H3 g3 F3 ri q
  split at q
  · rename_i k xs i hc
    split at q
    · rename_i j hj
      cases ri
      obtain ⟨a, vs, rfl, ha, hh, r4, hk⟩ := lst_cell F3 (rc.up g3) hc
      refine ⟨a, vs, i, j, rfl, rfl, hh, by rw [xs_len r4]; exact hj, ?_⟩
      exact q ρ Hb3 _ σ (.refl _) (F3.write hk ha ⟨_, rfl, xs_set ((rx.up g2).up g3) r4 j⟩)
    · exact q.elim
  · exact q.elim
/-- xs.pop(i) as a statement; x = xs.pop(i) -/
def popAt (s : S) (c : Xv) (iv : Xv) : Option (Xv × S) := match cellOf s c, iv with
  | some (k, .lst xs), .dat (.int i) => if -(2 ^ 63) ≤ i ∧ i < 2 ^ 63 then (match ixN xs.length i with
      | some j => match xs[j]? with
        | some x => some (x, s.setCell k (.lst (xs.eraseIdx j)))
        | none => none
      | none => none) else none
  | _, _ => none
def sPopI (mo mi : S → Rs Xv) (f : Xv → S → S) (s : S) : Out := oX s (mo s) fun c => match cellOf s c with
  | some (_, .lst _) => oX s (mi s) fun iv => match popAt s c iv with
    | some (x, s') => .nx (f x s')
    | none => .bad
  | _ => .bad
theorem pop_core {to ti : TE} {mo mi : S → Rs Xv} {f : Xv → S → S} (ho : EvX P w K W to mo) (hi : EvX P w K W ti mi) {s : S} {B0 H0 : Hp} {A0 : List Addr} {ρ : List Addr} {Hb H : Hp} {σ : L2.St} {E : Ends} (F : Fr P w K B0 H0 A0 ρ Hb H σ s)
    (q : Mt P w K W B0 H0 A0 Hb E (sPopI mo mi f s)) {Q : VK} (k : ∀ v x s' Hb' H', Ex Hb Hb' → Fr P w K B0 H0 A0 ρ Hb' H' σ s' → RX K ρ Hb' v x → Mt P w K W B0 H0 A0 Hb' E (.nx (f x s')) → Q v H') : tBM K "list" rPopAt to (tCons ti tNil) σ H Q := by
  refine ho s B0 H0 A0 ρ Hb H σ F _ (PsX.seq q ?_)
  intro v c Hb1 H1 g1 F1 rc q
  split at q
  · rename_i k' xs hc
    obtain ⟨a, vs, rfl, ha, hh, r4, hk⟩ := lst_cell F1 rc hc
    refine ⟨.inl ⟨rfl, _, SqL.of hh⟩, ?_⟩
    refine hi s B0 H0 A0 ρ Hb1 H1 σ F1 _ (PsX.seq q ?_)
    intro iv ix Hb2 H2 g2 F2 ri q
    split at q
    · rename_i x s' hp
      unfold popAt at hp
      rw [hc] at hp
      split at hp
      · rename_i k2 xs2 i e
        cases e
        split at hp
        · rename_i hb
          split at hp
          · rename_i j hj
            split at hp
            · rename_i y hy
              cases hp
              cases ri
              obtain ⟨a', vs', e1, ha', hh', r4', _⟩ := lst_cell F2 (rc.up g2) hc
              cases e1
              obtain ⟨u, hu, ru⟩ := xs_get r4' hy
              obtain ⟨h1, h2, h3, h4⟩ := ixN_seq hj
              refine ⟨a, vs', i, j, u, rfl, rfl, hh', hb.1, hb.2, by rw [xs_len r4']; exact h1, hu, ?_⟩
              exact k u _ _ Hb2 _ (g1.trans g2) (F2.write (o' := .lst (xs.eraseIdx j)) hk ha ⟨_, rfl, xs_erase r4' j⟩) ru q
            · cases hp
          · cases hp
        · cases hp
      · cases hp
    · exact q.elim
  · exact q.elim
theorem rn_popI {to ti : TE} {mo mi : S → Rs Xv} (ho : EvX P w K W to mo) (hi : EvX P w K W ti mi) : Rn P w K W (tDrop (tBM K "list" rPopAt to (tCons ti tNil))) (sPopI mo mi fun _ s => s) := by
  intro s B0 H0 A0 ρ Hb H σ E F q
  exact pop_core ho hi F q fun v x s' Hb' H' g F' r m => m ρ Hb' H' σ (.refl _) F'
theorem rn_popIset {to ti : TE} {mo mi : S → Rs Xv} {i : Nat} (ho : EvX P w K W to mo) (hi : EvX P w K W ti mi) : Rn P w K W (tAsg (tBM K "list" rPopAt to (tCons ti tNil)) (gName i)) (sPopI mo mi fun x s => s.put i x) := by
  intro s B0 H0 A0 ρ Hb H σ E F q
  exact pop_core ho hi F q fun v x s' Hb' H' g F' r m => m ρ Hb' H' _ (.refl _) (F'.set r)
/-- d[k] = e: e, then d, then k -/
def keyX : Xv → Option Key
  | .dat (.int i) => some (.inl i)
  | .dat (.str x) => some (.inr x)
  | _ => none
theorem keyX_R {ρ : List Addr} {Hb : Hp} {v : V} {x : Xv} {k : Key} (r : RX K ρ Hb v x) (h : keyX x = some k) : v = kV k := by
  unfold keyX at h
  split at h
  · cases h
    cases r
    rfl
  · cases h
    cases r
    rfl
  · cases h
def valX (kvs : List (Key × Xv)) (k : Key) : Option Xv := (kvs.find? fun kv => decide (kv.1 = k)).map (·.2)
def putX (kvs : List (Key × Xv)) (k : Key) (x : Xv) : List (Key × Xv) :=
  if (kvs.any fun kv => decide (kv.1 = k)) = true then kvs.map (fun kv => if kv.1 = k then (kv.1, x) else kv) else kvs ++ [(k, x)]
theorem RXk.val {ρ : List Addr} {Hb : Hp} {vs : List (Key × V)} {xs : List (Key × Xv)} (r : RXk K ρ Hb vs xs) (k : Key) : (valV vs k = none ∧ valX xs k = none) ∨ ∃ v x, valV vs k = some v ∧ valX xs k = some x ∧ RX K ρ Hb v x := by
  induction r with
  | nil => exact .inl ⟨rfl, rfl⟩
  | @cons p q vs xs h t ih =>
    obtain ⟨e, r⟩ := h
    by_cases hk : p.1 = k
    · refine .inr ⟨p.2, q.2, valV_pos hk, ?_, r⟩
      have : q.1 = k := e.symm.trans hk
      simp [valX, List.find?_cons, this]
    · have hq : ¬ q.1 = k := fun z => hk (e.trans z)
      rw [valV_neg hk]
      have e2 : valX (q :: xs) k = valX xs k := by simp [valX, List.find?_cons, hq]
      rw [e2]
      exact ih
theorem RXk.any {ρ : List Addr} {Hb : Hp} {vs : List (Key × V)} {xs : List (Key × Xv)} (r : RXk K ρ Hb vs xs) (k : Key) : (vs.any fun kv => decide (kv.1 = k)) = xs.any fun kv => decide (kv.1 = k) := by
  induction r with
  | nil => rfl
  | cons h t ih => rw [List.any_cons, List.any_cons, ih, h.1]
theorem RXk.putAt {ρ : List Addr} {Hb : Hp} {vs : List (Key × V)} {xs : List (Key × Xv)} {k : Key} {v : V} {x : Xv} (r : RXk K ρ Hb vs xs) (rx : RX K ρ Hb v x) :
    RXk K ρ Hb (vs.map fun kv => if kv.1 = k then (kv.1, v) else kv) (xs.map fun kv => if kv.1 = k then (kv.1, x) else kv) := by
  induction r with
  | nil => exact .nil
  | @cons p q vs xs h t ih =>
    refine .cons ?_ ih
    obtain ⟨p1, p2⟩ := p
    obtain ⟨q1, q2⟩ := q
    obtain ⟨e, r⟩ := h
    dsimp only at e r ⊢
    subst e
    by_cases hk : p1 = k
    · rw [if_pos hk, if_pos hk]
      exact ⟨rfl, rx⟩
    · rw [if_neg hk, if_neg hk]
      exact ⟨rfl, r⟩
theorem RXk.app {ρ : List Addr} {Hb : Hp} {vs us : List (Key × V)} {xs ys : List (Key × Xv)} (r : RXk K ρ Hb vs xs) (r2 : RXk K ρ Hb us ys) : RXk K ρ Hb (vs ++ us) (xs ++ ys) := by
  induction r with
  | nil => exact r2
  | cons h _ ih => exact .cons h ih
theorem RXk.put {ρ : List Addr} {Hb : Hp} {vs : List (Key × V)} {xs : List (Key × Xv)} {k : Key} {v : V} {x : Xv} (r : RXk K ρ Hb vs xs) (rx : RX K ρ Hb v x) : RXk K ρ Hb (putK vs k v) (putX xs k x) := by
  unfold putK putX
  rw [r.any k]
  split
  · exact r.putAt rx
  · exact r.app (.cons ⟨rfl, rx⟩ .nil)
theorem RXk.length {ρ : List Addr} {Hb : Hp} {vs : List (Key × V)} {xs : List (Key × Xv)} (r : RXk K ρ Hb vs xs) : vs.length = xs.length := Paired.length r
def sDPutX (mo mi me : S → Rs Xv) (s : S) : Out := oX s (me s) fun x => oX s (mo s) fun c => oX s (mi s) fun kx => match cellOf s c, keyX kx with
  | some (k, .dic kvs), some key => if kvs.length < sizeLine then .nx (s.setCell k (.dic (putX kvs key x))) else .bad
  | _, _ => .bad
theorem rn_dput {to ti te : TE} {mo mi me : S → Rs Xv} (ho : EvX P w K W to mo) (hi : EvX P w K W ti mi) (he : EvX P w K W te me) : Rn P w K W (sDPut to ti te) (sDPutX mo mi me) := by
  intro s B0 H0 A0 ρ Hb H σ E F q
  refine he s B0 H0 A0 ρ Hb H σ F _ (PsX.seq q ?_)
  intro u x Hb1 H1 g1 F1 rx q
  refine ho s B0 H0 A0 ρ Hb1 H1 σ F1 _ (PsX.seq q ?_)
  intro v c Hb2 H2 g2 F2 rc q
  refine hi s B0 H0 A0 ρ Hb2 H2 σ F2 _ (PsX.seq q ?_)
  intro iv ix Hb3 H3 g3 F3 ri q
  split at q
  · rename_i k kvs key hc hkey
    split at q
    · rename_i hz
      obtain ⟨a, vs, rfl, ha, hh, r4, hk⟩ := dic_cell F3 (rc.up g3) hc
      have e := keyX_R ri hkey
      subst e
      refine ⟨a, _, rfl, DPut.k hh (by rw [r4.length]; exact hz), ?_⟩
      exact q ρ Hb3 _ σ (.refl _) (F3.write (o' := .dic (putX kvs key x)) hk ha ⟨_, rfl, r4.put ((rx.up g2).up g3)⟩)
    · exact q.elim
  · exact q.elim
/-- s.add(e) -/
def sAdd (mo me : S → Rs Xv) (s : S) : Out := oX s (mo s) fun c => match cellOf s c with
  | some (k, .kset ks) => oX s (me s) fun x => match keyX x with
    | some key => if ks.length + 1 < scanBound then .nx (s.setCell k (.kset (ks ++ [key]))) else .bad
    | none => .bad
  | _ => .bad
theorem rn_add {to te : TE} {mo me : S → Rs Xv} (ho : EvX P w K W to mo) (he : EvX P w K W te me) : Rn P w K W (tDrop (tSAddK P w to (tCons te tNil))) (sAdd mo me) := by
  intro s B0 H0 A0 ρ Hb H σ E F q
  refine ho s B0 H0 A0 ρ Hb H σ F _ (PsX.seq q ?_)
  intro v c Hb1 H1 g1 F1 rc q
  split at q
  · rename_i k ks hc
    obtain ⟨a, Sk, n, rfl, ha, hh, hn, hS, hk⟩ := set_cell F1 rc hc
    refine ⟨⟨a, Sk, n, rfl, hh⟩, ?_⟩
    refine he s B0 H0 A0 ρ Hb1 H1 σ F1 _ (PsX.seq q ?_)
    intro u x Hb2 H2 g2 F2 rx q
    split at q
    · rename_i key hkey
      split at q
      · rename_i hz
        obtain ⟨a', Sk', n', e1, ha', hh', hn', hS', _⟩ := set_cell F2 (rc.up g2) hc
        cases e1
        have e := keyX_R rx hkey
        subst e
        refine ⟨a, key, Sk', n', rfl, rfl, hh', by omega, ?_⟩
        refine q ρ Hb2 _ σ (.refl _) (F2.write (o' := .kset (ks ++ [key])) hk ha ⟨_, _, rfl, ?_, fun j => ?_⟩)
        · rw [List.length_append, List.length_singleton]
          split <;> omega
        · rw [hS', List.any_append]
          simp [eq_comm]
      · exact q.elim
    · exact q.elim
  · exact q.elim
/-- e in s (an own set), as a test -/
def tIn (neg : Bool) (me mo : S → Rs Xv) (s : S) : Rs Bool := (me s).bind fun x => (mo s).bind fun c => match keyX x, cellOf s c with
  | some key, some (_, .kset ks) => .ok (if neg then !(ks.any fun q => decide (q = key)) else ks.any fun q => decide (q = key))
  | _, _ => .bad
theorem PsX.seqT {B0 H0 : Hp} {A0 : List Addr} {ρ : List Addr} {Hb H : Hp} {σ : L2.St} {s : S} {Q2 : Bool → Hp → Prop} {f : Xv → Rs Bool} {r : Rs Xv} {Q : V → Hp → Prop} (m : PsT P w K W B0 H0 A0 ρ Hb H σ s Q2 (r.bind f))
    (k : ∀ v x Hb' H', Ex Hb Hb' → Fr P w K B0 H0 A0 ρ Hb' H' σ s → RX K ρ Hb' v x → PsT P w K W B0 H0 A0 ρ Hb' H' σ s Q2 (f x) → Q v H') : PsX P w K W B0 H0 A0 ρ Hb H σ s Q r := by
  cases r with
  | ok x => exact fun v Hb' H' g _ F' rx => k v x Hb' H' g F' rx (PsT.later m g)
  | exc e => exact m
  | bad => exact m
theorem xt_in {neg : Bool} {to te : TE} {mo me : S → Rs Xv} (he : EvX P w K W te me) (ho : EvX P w K W to mo) : EvT P w K W (tTest (tOp (rSInK P w neg) te to)) (tIn neg me mo) := by
  intro s B0 H0 A0 ρ Hb H σ F Q p
  refine he s B0 H0 A0 ρ Hb H σ F _ (PsX.seqT p ?_)
  intro u x Hb1 H1 g1 F1 rx p
  refine ho s B0 H0 A0 ρ Hb1 H1 σ F1 _ (PsX.seqT p ?_)
  intro v c Hb2 H2 g2 F2 rc p
  split at p
  · rename_i key k ks hkey hc
    obtain ⟨a, Sk, n, rfl, ha, hh, hn, hS, hk⟩ := set_cell F2 rc hc
    have e := keyX_R (rx.up g2) hkey
    subst e
    refine ⟨key, a, Sk, n, rfl, rfl, hh, _, rfl, ?_⟩
    rw [hS]
    exact p Hb2 H2 (.refl _) F2
  · exact p.elim
/-- name op= int -/
def sAugI (i : Nat) (g : Int → Int → Int) (me : S → Rs Xv) (s : S) : Out := match s.sl[i]? with
  | some (some (.dat (.int a))) => oX s (me s) fun x => match x with
    | .dat (.int b) => .nx (s.put i (.dat (.int (g a b))))
    | _ => .bad
  | _ => .bad
theorem rn_augI {i : Nat} {g : Int → Int → Int} {te : TE} {me : S → Rs Xv} (he : EvX P w K W te me) : Rn P w K W (tAug i te (ipI g)) (sAugI i g me) := by
  intro s B0 H0 A0 ρ Hb H σ E F q
  unfold sAugI at q
  split at q
  · rename_i a hs
    obtain ⟨v, h1, h2⟩ := F.sl i _ hs
    cases h2
    refine ⟨_, h1, he s B0 H0 A0 ρ Hb H σ F _ (PsX.seq q ?_)⟩
    intro u x Hb1 H1 g1 F1 rx q
    split at q
    · cases rx
      exact ⟨_, _, rfl, rfl, q ρ Hb1 H1 _ (.refl _) (F1.set (.int _))⟩
    · exact q.elim
  · exact q.elim
/-! ### what the def gives up for good: an object becomes data -/
def subX (k : Nat) (d : D) : Xv → Xv
  | .cell j => if j = k then .dat d else .cell j
  | x => x
def subO (k : Nat) (d : D) : OO → OO
  | .lst xs => .lst (xs.map (subX k d))
  | .dic kvs => .dic (kvs.map fun p => (p.1, subX k d p.2))
  | .kset ks => .kset ks
  | .ins c fs => .ins c (fs.map fun p => (p.1, subX k d p.2))
def allDat : List Xv → Option (List D)
  | [] => some []
  | .dat d :: xs => (allDat xs).map (d :: ·)
  | .cell _ :: _ => none
def cutK (k : Nat) (ce : List (Option OO)) : List (Option OO) := if k + 1 = ce.length ∧ 1 ≤ k then ce.take k else ce.set k none
def frzK (k : Nat) (s : S) : Option S := match s.ce[k]? with
  | some (some (.lst xs)) => (allDat xs).map fun ds => ⟨s.sl.map fun o => o.map (subX k (.lst ds)), cutK k (s.ce.map fun o => o.map (subO k (.lst ds)))⟩
  | some (some (.dic kvs)) => (allDat (kvs.map (·.2))).map fun ds => ⟨s.sl.map fun o => o.map (subX k (.dic ((kvs.map (·.1)).zip ds))), cutK k (s.ce.map fun o => o.map (subO k (.dic ((kvs.map (·.1)).zip ds))))⟩
  | _ => none
def sFrz (i : Nat) (s : S) : Out := match s.sl[i]? with
  | some (some (.cell k)) => match frzK k s with
    | some s' => .nx s'
    | none => .bad
  | _ => .nx s
theorem allDat_R {ρ : List Addr} {Hb : Hp} : ∀ {xs : List Xv} {vs : List V} {ds : List D}, RXs K ρ Hb vs xs → allDat xs = some ds → RA K Hb vs ds
  | [], _, _, r, h => by
    cases r
    cases h
    exact .nil
  | .dat d :: xs, _, _, r, h => by
    unfold allDat at h
    cases e : allDat xs with
    | none =>
      rw [e] at h
      cases h
    | some es =>
      rw [e] at h
      cases h
      cases r with
      | cons r rs => exact .cons r (allDat_R rs e)
  | .cell _ :: _, _, _, _, h => by cases h
theorem subX_R {ρ : List Addr} {Hb Hb' : Hp} {k : Nat} {a : Addr} {d : D} {v : V} {x : Xv} (e : Ex Hb Hb') (ha : ρ[k]? = some a) (rd : R K Hb' (.ref a) d) (r : RX K ρ Hb v x) : RX K ρ Hb' v (subX k d x) := by
  cases x with
  | dat u => exact R.mono e r
  | cell j =>
    show RX K ρ Hb' v (if j = k then .dat d else .cell j)
    by_cases hj : j = k
    · rw [if_pos hj]
      subst hj
      obtain ⟨b, hb, rfl⟩ := r
      rw [ha] at hb
      cases hb
      exact rd
    · rw [if_neg hj]
      exact r
theorem subO_R {ρ : List Addr} {Hb Hb' : Hp} {k : Nat} {a b : Addr} {d : D} {ho : HO} {o : OO} (e : Ex Hb Hb') (ha : ρ[k]? = some a) (rd : R K Hb' (.ref a) d) (r : RO P w K ρ Hb b ho o) : RO P w K ρ Hb' b ho (subO k d o) := by
  cases o with
  | lst xs =>
    obtain ⟨vs, rfl, r⟩ := r
    refine ⟨vs, rfl, ?_⟩
    induction r with
    | nil => exact .nil
    | cons r _ ih => exact .cons (subX_R e ha rd r) ih
  | dic xs =>
    obtain ⟨vs, rfl, r⟩ := r
    refine ⟨vs, rfl, ?_⟩
    induction r with
    | nil => exact .nil
    | cons r _ ih => exact .cons ⟨r.1, subX_R e ha rd r.2⟩ ih
  | kset ks => exact r
  | ins c fs =>
    obtain ⟨dx, vs, rfl, r⟩ := r
    refine ⟨dx, vs, rfl, ?_⟩
    induction r with
    | nil => exact .nil
    | cons r _ ih => exact .cons ⟨r.1, subX_R e ha rd r.2⟩ ih
theorem dic_R {ρ : List Addr} {Hb : Hp} : ∀ {vs : List (Key × V)} {kvs : List (Key × Xv)} {ds : List D}, RXk K ρ Hb vs kvs → allDat (kvs.map (·.2)) = some ds → RK K Hb vs ((kvs.map (·.1)).zip ds) := by
  intro vs kvs ds r
  induction r generalizing ds with
  | nil =>
    intro h
    cases h
    exact .nil
  | @cons p q vs xs r _ ih =>
    intro h
    obtain ⟨k, v⟩ := p
    obtain ⟨k', x⟩ := q
    obtain ⟨e, r⟩ := r
    dsimp only at e r
    subst e
    cases x with
    | cell j => cases h
    | dat d =>
      rw [List.map_cons] at h
      unfold allDat at h
      cases e : allDat (xs.map (·.2)) with
      | none =>
        rw [e] at h
        cases h
      | some es =>
        rw [e] at h
        cases h
        exact .cons r (ih e)
theorem frz_core {B0 H0 : Hp} {A0 : List Addr} {ρ : List Addr} {Hb H : Hp} {σ : L2.St} {s : S} {k : Nat} {a : Addr} {ho : HO} {d : D} (F : Fr P w K B0 H0 A0 ρ Hb H σ s) (ha : ρ[k]? = some a) (hb : Hb a = none) (hh : H a = some ho) (rd : R K (upd Hb a ho) (.ref a) d) :
    Fr P w K B0 H0 A0 ρ (upd Hb a ho) H σ ⟨s.sl.map fun o => o.map (subX k d), (s.ce.map fun o => o.map (subO k d)).set k none⟩ := by
  have e : Ex Hb (upd Hb a ho) := Evl.Ex.new hb
  have hm : a ∈ ρ := List.mem_of_getElem? ha
  refine ⟨fun b o h => ?_, F.b0.trans e, F.h0, fun b o h1 h2 => ?_, by simp [F.len], by simp [F.slen], F.nd, F.anc, F.there, fun i x h => ?_, fun j o h => ?_⟩
  · by_cases hba : b = a
    · subst hba
      rw [upd_same] at h
      cases h
      exact hh
    · rw [upd_ne hba] at h
      exact F.ex b o h
  · have hba : b ≠ a := fun z => by
      subst z
      rw [(F.there _ hm).2] at h2
      cases h2
    rw [upd_ne hba]
    exact F.hid b o h1 h2
  · have h : (s.sl.map fun o => o.map (subX k d))[i]? = some (some x) := h
    rw [List.getElem?_map] at h
    cases hs : s.sl[i]? with
    | none =>
      rw [hs] at h
      cases h
    | some oy =>
      rw [hs] at h
      cases oy with
      | none => cases h
      | some y =>
        cases h
        obtain ⟨v, h1, h2⟩ := F.sl i y hs
        exact ⟨v, h1, subX_R e ha rd h2⟩
  · have h : ((s.ce.map fun o => o.map (subO k d)).set k none)[j]? = some (some o) := h
    by_cases hj : k = j
    · subst hj
      by_cases hl : k < (s.ce.map fun o => o.map (subO k d)).length
      · rw [List.getElem?_set_self hl] at h
        cases h
      · rw [List.getElem?_eq_none (by rw [List.length_set]; omega)] at h
        cases h
    · rw [List.getElem?_set_ne hj, List.getElem?_map] at h
      cases hs : s.ce[j]? with
      | none =>
        rw [hs] at h
        cases h
      | some oy =>
        rw [hs] at h
        cases oy with
        | none => cases h
        | some y =>
          cases h
          obtain ⟨b, hu, q1, q2, q3, q4⟩ := F.ce j y hs
          have hab : b ≠ a := fun z => by
            subst z
            exact hj ((List.getElem?_inj (List.getElem?_eq_some_iff.mp ha).1 F.nd).mp (ha.trans q1.symm))
          exact ⟨b, hu, q1, by rw [upd_ne hab]; exact q2, q3, subO_R e ha rd q4⟩
def noX (k : Nat) : Xv → Prop
  | .cell j => j ≠ k
  | .dat _ => True
theorem subX_no {k : Nat} {d : D} (x : Xv) : noX k (subX k d x) := by
  cases x with
  | dat u => trivial
  | cell j =>
    show noX k (if j = k then .dat d else .cell j)
    by_cases h : j = k
    · rw [if_pos h]
      trivial
    · rw [if_neg h]
      exact h
theorem take_get {ρ : List Addr} {k j : Nat} {a : Addr} (hl : ρ.length = k + 1) (hj : j ≠ k) (h : ρ[j]? = some a) : (ρ.take k)[j]? = some a := by
  have := (List.getElem?_eq_some_iff.mp h).1
  rw [List.getElem?_take, if_pos (by omega)]
  exact h
theorem RX.cut {ρ : List Addr} {Hb : Hp} {k : Nat} {v : V} {x : Xv} (hl : ρ.length = k + 1) (n : noX k x) (r : RX K ρ Hb v x) : RX K (ρ.take k) Hb v x := by
  cases x with
  | dat u => exact r
  | cell j =>
    obtain ⟨b, hb, e⟩ := r
    exact ⟨b, take_get hl n hb, e⟩
theorem RO.cut {ρ : List Addr} {Hb : Hp} {k : Nat} {b : Addr} {d : D} {ho : HO} {o : OO} (hl : ρ.length = k + 1) (r : RO P w K ρ Hb b ho (subO k d o)) : RO P w K (ρ.take k) Hb b ho (subO k d o) := by
  cases o with
  | lst xs =>
    obtain ⟨vs, h, r⟩ := r
    refine ⟨vs, h, ?_⟩
    clear h
    induction xs generalizing vs with
    | nil =>
      cases r
      exact .nil
    | cons x xs ih =>
      cases r with
      | cons r rs => exact .cons (RX.cut hl (subX_no x) r) (ih _ rs)
  | dic xs =>
    obtain ⟨vs, h, r⟩ := r
    refine ⟨vs, h, ?_⟩
    clear h
    induction xs generalizing vs with
    | nil =>
      cases r
      exact .nil
    | cons x xs ih =>
      cases r with
      | cons r rs => exact .cons ⟨r.1, RX.cut hl (subX_no x.2) r.2⟩ (ih _ rs)
  | kset ks => exact r
  | ins c xs =>
    obtain ⟨dx, vs, h, r⟩ := r
    refine ⟨dx, vs, h, ?_⟩
    clear h
    induction xs generalizing vs with
    | nil =>
      cases r
      exact .nil
    | cons x xs ih =>
      cases r with
      | cons r rs => exact .cons ⟨r.1, RX.cut hl (subX_no x.2) r.2⟩ (ih _ rs)
theorem frz_cut {B0 H0 : Hp} {A0 : List Addr} {ρ : List Addr} {Hb H : Hp} {σ : L2.St} {s : S} {k : Nat} {d : D} (hk : k < s.ce.length)
    (F : Fr P w K B0 H0 A0 ρ Hb H σ ⟨s.sl.map fun o => o.map (subX k d), (s.ce.map fun o => o.map (subO k d)).set k none⟩) :
    ∃ ρ', Fr P w K B0 H0 A0 ρ' Hb H σ ⟨s.sl.map fun o => o.map (subX k d), cutK k (s.ce.map fun o => o.map (subO k d))⟩ := by
  unfold cutK
  by_cases hc : k + 1 = (s.ce.map fun o => o.map (subO k d)).length ∧ 1 ≤ k
  · rw [if_pos hc]
    have hl : ρ.length = k + 1 := by
      have := F.len
      rw [List.length_set] at this
      omega
    refine ⟨ρ.take k, F.ex, F.b0, F.h0, F.hid, ?_, F.slen, ?_, fun a h => ?_, fun a h => F.there a (List.mem_of_mem_take h), fun i x h => ?_, fun j o h => ?_⟩
    · show (ρ.take k).length = ((s.ce.map fun o => o.map (subO k d)).take k).length
      rw [List.length_take, List.length_take, hl, ← hc.1]
    · exact F.nd.sublist (List.take_sublist k ρ)
    · have z := F.anc a h
      cases ρ with
      | nil => cases z
      | cons b r =>
        obtain ⟨k', rfl⟩ : ∃ k', k = k' + 1 := ⟨k - 1, by omega⟩
        exact z
    · obtain ⟨v, h1, h2⟩ := F.sl i x h
      have h : (s.sl.map fun o => o.map (subX k d))[i]? = some (some x) := h
      rw [List.getElem?_map] at h
      cases hs : s.sl[i]? with
      | none =>
        rw [hs] at h
        cases h
      | some oy =>
        rw [hs] at h
        cases oy with
        | none => cases h
        | some y =>
          cases h
          exact ⟨v, h1, RX.cut hl (subX_no y) h2⟩
    · have h : ((s.ce.map fun o => o.map (subO k d)).take k)[j]? = some (some o) := h
      rw [List.getElem?_take] at h
      split at h
      · rename_i hj
        have hset : ((s.ce.map fun o => o.map (subO k d)).set k none)[j]? = some (some o) := by
          rw [List.getElem?_set_ne (by omega)]
          exact h
        obtain ⟨a, ho, q1, q2, q3, q4⟩ := F.ce j o hset
        rw [List.getElem?_map] at h
        cases hs : s.ce[j]? with
        | none =>
          rw [hs] at h
          cases h
        | some oy =>
          rw [hs] at h
          cases oy with
          | none => cases h
          | some y =>
            cases h
            exact ⟨a, ho, take_get hl (by omega) q1, q2, q3, RO.cut hl q4⟩
      · cases h
  · rw [if_neg hc]
    exact ⟨ρ, F⟩
/-- t, at a state whose i-th name's object is data from here on -/
theorem rn_frz {t : TS} {m : S → Out} (i : Nat) (h : Rn P w K W t m) : Rn P w K W t (sSeq (sFrz i) m) := by
  intro s B0 H0 A0 ρ Hb H σ E F q
  unfold sSeq sFrz at q
  split at q
  · rename_i k hs
    obtain ⟨v, h1, a, ha, rfl⟩ := F.sl i _ hs
    unfold frzK at q
    split at q
    · rename_i s' hf
      split at hf
      · rename_i xs hc
        cases e : allDat xs with
        | none =>
          rw [e] at hf
          cases hf
        | some ds =>
          rw [e] at hf
          cases hf
          obtain ⟨a', ho, q1, q2, q3, vs, rfl, q4⟩ := F.ce k _ hc
          rw [ha] at q1
          cases q1
          have rd : R K (upd Hb a (.lst vs)) (.ref a) (.lst ds) := .lst upd_same ((allDat_R q4 e).mono (Evl.Ex.new q2))
          obtain ⟨ρ', F'⟩ := frz_cut (List.getElem?_eq_some_iff.mp hc).1 (frz_core F ha q2 q3 rd)
          exact h _ B0 H0 A0 ρ' _ H σ E F' (Mt.later q (Evl.Ex.new q2))
      · rename_i kvs hc
        cases e : allDat (kvs.map (·.2)) with
        | none =>
          rw [e] at hf
          cases hf
        | some ds =>
          rw [e] at hf
          cases hf
          obtain ⟨a', ho, q1, q2, q3, vs, rfl, q4⟩ := F.ce k _ hc
          rw [ha] at q1
          cases q1
          have rd : R K (upd Hb a (.dK vs)) (.ref a) (.dic ((kvs.map (·.1)).zip ds)) := .dic upd_same ((dic_R q4 e).mono (Evl.Ex.new q2))
          obtain ⟨ρ', F'⟩ := frz_cut (List.getElem?_eq_some_iff.mp hc).1 (frz_core F ha q2 q3 rd)
          exact h _ B0 H0 A0 ρ' _ H σ E F' (Mt.later q (Evl.Ex.new q2))
      · cases hf
    · exact q.elim
  · exact h s B0 H0 A0 ρ Hb H σ E F q
end
end DL
set_option Elab.async false
set_option linter.all false
set_option maxRecDepth 100000
set_option maxHeartbeats 4000000
/-! The data layer, 8: dicts read, f-strings, isinstance, instances, exceptions. -/
namespace DL
open PySem PySem.Spec PyProof.Rows L2
open Evl (Ex ex_l ex_t fresh_back)
set_option autoImplicit false
section
variable {P : Program} {w : World} {K : PySem.W.Frag} {W : WX} {δ : Dv}
/-! ### dicts read -/
def keyD : D → Option Key
  | .int i => some (.inl i)
  | .str x => some (.inr x)
  | _ => none
theorem keyD_R {H : Hp} {v : V} {x : D} {k : Key} (r : R K H v x) (h : keyD x = some k) : v = kV k := by
  cases r with
  | int i =>
    cases h
    rfl
  | str x =>
    cases h
    rfl
  | _ => cases h
def valD (kvs : List (Key × D)) (k : Key) : Option D := (kvs.find? fun kv => decide (kv.1 = k)).map (·.2)
theorem RK.val {H : Hp} : ∀ {vs : List (Key × V)} {xs : List (Key × D)}, RK K H vs xs → ∀ k : Key, (valV vs k = none ∧ valD xs k = none) ∨ ∃ v x, valV vs k = some v ∧ valD xs k = some x ∧ R K H v x
  | _, _, .nil, k => .inl ⟨rfl, rfl⟩
  | _, _, .cons (f := f) (v := v) (vs := vs) (d := d) (ds := ds) r rs, k => by
    by_cases hk : f = k
    · exact .inr ⟨v, d, valV_pos hk, by simp [valD, List.find?_cons, hk], r⟩
    · have e1 : valV ((f, v) :: vs) k = valV vs k := valV_neg hk
      have e2 : valD ((f, d) :: ds) k = valD ds k := by simp [valD, List.find?_cons, hk]
      rw [e1, e2]
      exact RK.val rs k
def dInD (x y : D) : Option Bool := match y, keyD x with
  | .dic kvs, some k => some (valD kvs k).isSome
  | _, _ => none
def dInDic (x y : D) : Option D := (dInD x y).map .bl
def dNotInDic (x y : D) : Option D := (dInD x y).map fun b => .bl (!b)
theorem dInD_R {Hx H : Hp} {x y : V} {d e : D} {b : Bool} (ex : Ex Hx H) (rx : R K Hx x d) (ry : R K Hx y e) (h : dInD d e = some b) : ∃ a o, y = .ref a ∧ DGet H a x o ∧ o.isSome = b := by
  unfold dInD at h
  split at h
  · rename_i kvs k hk
    cases h
    cases ry with
    | dic h1 h2 =>
      have e := keyD_R rx hk
      subst e
      refine ⟨_, _, rfl, DGet.k (ex _ _ h1), ?_⟩
      rcases h2.val k with ⟨h3, h4⟩ | ⟨v, u, h3, h4, _⟩ <;> rw [h3, h4] <;> rfl
  · cases h
theorem ev_din {ta tb : TE} {a b : Rs D} (h1 : EvD K W ta δ a) (h2 : EvD K W tb δ b) : EvD K W (tDIn ta tb) δ (e2 dInDic a b) := by
  intro Hx H σ env Q p
  refine h1 Hx H σ env _ (p.seq ?_)
  rintro x H1 ⟨Hx1, d, g, rx, p1⟩
  refine h2 Hx1 H1 σ (env.gw g) _ (p1.seq ?_)
  rintro y H2 ⟨Hx2, e, g2, ry, p2⟩
  obtain ⟨z, hz, p2⟩ := p2.ofO
  unfold dInDic at hz
  cases hb : dInD d e with
  | none =>
    rw [hb] at hz
    cases hz
  | some b =>
    rw [hb] at hz
    cases hz
    obtain ⟨c, o, rfl, h3, h4⟩ := dInD_R g2.2.2.1 (rx.mono g2.1) ry hb
    refine ⟨c, o, rfl, h3, ?_⟩
    rw [h4]
    exact p2 _ _ _ (.refl g2.2.2.1) (.bl _)
theorem ev_dnotin {ta tb : TE} {a b : Rs D} (h1 : EvD K W ta δ a) (h2 : EvD K W tb δ b) : EvD K W (tDNotIn ta tb) δ (e2 dNotInDic a b) := by
  intro Hx H σ env Q p
  refine h1 Hx H σ env _ (p.seq ?_)
  rintro x H1 ⟨Hx1, d, g, rx, p1⟩
  refine h2 Hx1 H1 σ (env.gw g) _ (p1.seq ?_)
  rintro y H2 ⟨Hx2, e, g2, ry, p2⟩
  obtain ⟨z, hz, p2⟩ := p2.ofO
  unfold dNotInDic at hz
  cases hb : dInD d e with
  | none =>
    rw [hb] at hz
    cases hz
  | some b =>
    rw [hb] at hz
    cases hz
    obtain ⟨c, o, rfl, h3, h4⟩ := dInD_R g2.2.2.1 (rx.mono g2.1) ry hb
    refine ⟨c, o, rfl, h3, ?_⟩
    rw [h4]
    exact p2 _ _ _ (.refl g2.2.2.1) (.bl _)
def dGetK (y x : D) : Option D := match y, keyD x with
  | .dic kvs, some k => valD kvs k
  | _, _ => none
theorem ev_dget {ta tb : TE} {a b : Rs D} (h1 : EvD K W ta δ a) (h2 : EvD K W tb δ b) : EvD K W (tDGet ta tb) δ (e2 dGetK a b) := by
  intro Hx H σ env Q p
  refine h1 Hx H σ env _ (p.seq ?_)
  rintro x H1 ⟨Hx1, d, g, rx, p1⟩
  refine h2 Hx1 H1 σ (env.gw g) _ (p1.seq ?_)
  rintro y H2 ⟨Hx2, e, g2, ry, p2⟩
  obtain ⟨z, hz, p3⟩ := p2.ofO
  clear p2
  unfold dGetK at hz
  split at hz
  · rename_i kvs k hk
    cases rx with
    | dic q1 q2 =>
      have e := keyD_R ry hk
      subst e
      rcases q2.val k with ⟨h3, h4⟩ | ⟨v, u, h3, h4, r⟩
      · rw [h4] at hz
        cases hz
      · rw [h4] at hz
        cases hz
        refine ⟨_, v, rfl, ?_, p3 _ _ _ (.refl g2.2.2.1) (r.mono g2.1)⟩
        have := DGet.k (k := k) (g2.2.2.1 _ _ (g2.1 _ _ q1))
        rw [h3] at this
        exact this
  · cases hz
/-- d.get(k) -/
def eGet1 (a b : Rs D) : Rs D := a.bind fun x => match x with
  | .dic kvs => b.bind fun y => match keyD y with
    | some k => .ok ((valD kvs k).getD .non)
    | none => .bad
  | _ => .bad
theorem ev_dget1 {ta tb : TE} {a b : Rs D} (h1 : EvD K W ta δ a) (h2 : EvD K W tb δ b) : EvD K W (tDGet1 ta tb) δ (eGet1 a b) := by
  intro Hx H σ env Q p
  refine h1 Hx H σ env _ (p.seq ?_)
  rintro x H1 ⟨Hx1, d, g, rx, p1⟩
  cases rx with
  | dic q1 q2 =>
    refine ⟨_, rfl, .inl ⟨_, .inl (g.2.2.1 _ _ q1)⟩, ?_⟩
    refine h2 Hx1 H1 σ (env.gw g) _ (p1.seq ?_)
    rintro y H2 ⟨Hx2, e, g2, ry, p2⟩
    split at p2
    · rename_i k hk
      have e := keyD_R ry hk
      subst e
      refine ⟨_, DGet.k (g2.2.2.1 _ _ (g2.1 _ _ q1)), ?_⟩
      rcases q2.val k with ⟨h3, h4⟩ | ⟨v, u, h3, h4, r⟩
      · rw [h3]
        rw [h4] at p2
        exact p2 _ _ _ (.refl g2.2.2.1) .non
      · rw [h3]
        rw [h4] at p2
        exact p2 _ _ _ (.refl g2.2.2.1) (r.mono g2.1)
    · exact p2.elim
  | _ => exact p1.elim
/-! ### f-strings -/
def fmtD : D → Option D
  | .str y => if y.length ≤ sizeLine then some (.str y) else none
  | .int i => if i.natAbs.log2 < 1920 then some (.str (toString i)) else none
  | _ => none
theorem ev_fmt {te : TE} {a : Rs D} (h : EvD K W te δ a) : EvD K W (tFmt te) δ (e1 fmtD a) := by
  intro Hx H σ env Q p
  refine h Hx H σ env _ (p.seq ?_)
  rintro x H1 ⟨Hx1, d, g, rx, p1⟩
  obtain ⟨z, hz, p1⟩ := p1.ofO
  unfold fmtD at hz
  split at hz
  · split at hz
    · rename_i hl
      cases hz
      cases rx
      exact .inl ⟨_, rfl, hl, p1 _ _ _ (.refl g.2.2.1) (.str _)⟩
    · cases hz
  · split at hz
    · rename_i hl
      cases hz
      cases rx
      exact .inr ⟨_, rfl, hl, p1 _ _ _ (.refl g.2.2.1) (.str _)⟩
    · cases hz
  · cases hz
inductive EvJ (K : PySem.W.Frag) (W : WX) (δ : Dv) : List TE → List (Rs D) → Prop
  | nil : EvJ K W δ [] []
  | cons {t : TE} {ts : List TE} {r : Rs D} {rs : List (Rs D)} : EvD K W t δ r → EvJ K W δ ts rs → EvJ K W δ (t :: ts) (r :: rs)
def jn : List (Rs D) → Str → Rs D
  | [], acc => .ok (.str acc)
  | r :: rs, acc => r.bind fun d => match d with
    | .str y => if (acc ++ y).length ≤ sizeLine then jn rs (acc ++ y) else .bad
    | _ => .bad
theorem ev_jn : ∀ {ts : List TE} {rs : List (Rs D)}, EvJ K W δ ts rs → ∀ (acc : Str) (Hx H : Hp) (σ : L2.St), EnvR K Hx H σ δ → ∀ Q : VK, Pst (RelD K) K W σ Hx H Q (jn rs acc) → tJs ts acc σ H fun out H1 => Q (.str out) H1
  | _, _, .nil, acc, Hx, H, σ, env, Q, p => p _ _ _ (.refl env.ex) (.str _)
  | _, _, .cons h hs, acc, Hx, H, σ, env, Q, p => by
    refine h Hx H σ env _ (p.seq ?_)
    rintro x H1 ⟨Hx1, d, g, rx, p1⟩
    cases rx with
    | str y =>
      have p1 : Pst (RelD K) K W σ Hx1 H1 Q (if (acc ++ y).length ≤ sizeLine then jn _ (acc ++ y) else .bad) := p1
      split at p1
      · rename_i hl
        exact ⟨y, rfl, hl, ev_jn hs (acc ++ y) Hx1 H1 σ (env.gw g) Q p1⟩
      · exact p1.elim
    | _ => exact p1.elim
theorem ev_joined {ts : List TE} {rs : List (Rs D)} (h : EvJ K W δ ts rs) : EvD K W (fun σ H Q => tJs ts Str.empty σ H fun out H1 => Q (.str out) H1) δ (jn rs Str.empty) := fun Hx H σ env Q p => ev_jn h Str.empty Hx H σ env Q p
/-! ### isinstance -/
def tyN : D → Option String
  | .non => some "NoneType"
  | .bl _ => some "bool"
  | .int _ => some "int"
  | .str _ => some "str"
  | .lst _ => some "list"
  | .tup _ => some "tuple"
  | .dic _ => some "dict"
  | .sq _ => some "list"
  | .ins _ _ => none
  | .exn _ _ _ => none
theorem tyN_R {Hx H : Hp} {v : V} {d : D} {t : String} (ex : Ex Hx H) (r : R K Hx v d) (h : tyN d = some t) : TyX K H v (.type t) := by
  cases r with
  | non =>
    cases h
    exact .base .non
  | bl b =>
    cases h
    exact .base (.bl b)
  | int i =>
    cases h
    exact .base (.int i)
  | str x =>
    cases h
    exact .base (.str x)
  | lst h1 h2 =>
    cases h
    exact .base (.lst (ex _ _ h1))
  | tup h1 h2 =>
    cases h
    rcases ex_t ex h1 with (h | ⟨o, h⟩) | ⟨o, its, n, hk, hc, _⟩
    · exact .base (.tup h)
    · exact .fTuple h
    · exact .kTuple hk hc
  | dic h1 h2 =>
    cases h
    exact .base (.dK (ex _ _ h1))
  | sq h1 =>
    cases h
    rcases ex_l ex h1 with (h | ⟨o, h⟩) | ⟨o, its, n, hk, hc, _⟩
    · exact .base (.lst h)
    · exact .base (.frz h)
    · exact .kList hk hc
  | ins _ _ => cases h
  | exn0 _ => cases h
  | exn1 _ _ => cases h
/-- a class that isinstance asks, and its answers -/
def IsA (K : PySem.W.Frag) (u : Value) (f : D → Option Bool) : Prop := ∀ (Hx H : Hp) (v : V) (d : D) (b : Bool), Ex Hx H → R K Hx v d → f d = some b → ∃ t, TyX K H v t ∧ PySem.W.kitOne K t u = some b
def isB (T : String) (d : D) : Option Bool := (tyN d).bind fun t => kitB t T
theorem isa_B (T : String) : IsA K (.type T) (isB T) := by
  intro Hx H v d b ex r h
  unfold isB at h
  cases ht : tyN d with
  | none =>
    rw [ht] at h
    cases h
  | some t =>
    rw [ht] at h
    exact ⟨_, tyN_R ex r ht, kit_ty h⟩
/-- what isinstance must know of a class of one's own -/
structure OwnC (K : PySem.W.Frag) (C : Addr) : Prop where
  cl : Cls K C
  ha : PySem.W.findIn K (.ref C) "__class__" = some (some (.builtin "object.__class__"))
  hn : PySem.W.specialIn K (.builtin "object.__class__") "__get__" = some (some (.builtin "getset_descriptor.__get__"))
  ht : PySem.W.takesIn K (.builtin "object.__class__") = some true
  hm : PySem.W.mroIn K C (.type "object") = some true
  yes : PySem.W.kitOne K (.ref C) (.ref C) = some true
  no : PySem.W.kitOne K (.type "NoneType") (.ref C) = some false
def isC (C : Addr) : D → Option Bool
  | .ins C' _ => if C' = C then some true else none
  | .non => some false
  | _ => none
theorem isa_C {C : Addr} (T : OwnC K C) : IsA K (.ref C) (isC C) := by
  intro Hx H v d b ex r h
  cases r with
  | non =>
    cases h
    exact ⟨_, .base .non, T.no⟩
  | @ins a C' dx fs gs h1 h2 =>
    have h' : (if C' = C then some true else none) = some b := h
    clear h
    split at h'
    · rename_i e
      subst e
      obtain rfl : true = b := Option.some.inj h'
      exact ⟨_, .base (.ins (ex _ _ h1) T.cl T.ha T.hn T.ht T.hm), T.yes⟩
    · cases h'
  | _ => cases h
def bOf (f : D → Option Bool) (d : D) : Option D := (f d).map .bl
theorem ev_isi {u : Value} {c : V} {f : D → Option Bool} {te : TE} {a : Rs D} (hc : ClsV c u) (hf : IsA K u f) (h : EvD K W te δ a) : EvD K W (tCB (rIsi K) (tCons te (tCons (tC c) tNil))) δ (e1 (bOf f) a) := by
  intro Hx H σ env Q p
  refine h Hx H σ env _ (p.seq ?_)
  rintro x H1 ⟨Hx1, d, g, rx, p1⟩
  obtain ⟨z, hz, p1⟩ := p1.ofO
  unfold bOf at hz
  cases hb : f d with
  | none =>
    rw [hb] at hz
    cases hz
  | some b =>
    rw [hb] at hz
    cases hz
    obtain ⟨t, h1, h2⟩ := hf Hx1 H1 x d b g.2.2.1 rx hb
    exact ⟨x, c, t, u, b, rfl, hc, h1, h2, p1 _ _ _ (.refl g.2.2.1) (.bl _)⟩
/-- isinstance(e, (T1, T2)) -/
def is2 (T1 T2 : String) (d : D) : Option Bool := (tyN d).bind fun t => (kitB t T1).bind fun b => if b = true then some true else kitB t T2
theorem ev_isi2 {T1 T2 : String} {te : TE} {a : Rs D} (h : EvD K W te δ a) : EvD K W (tCB (rIsiT K) (tCons te (tCons (tTup (tCons (tC (.ty T1)) (tCons (tC (.ty T2)) tNil))) tNil))) δ (e1 (bOf (is2 T1 T2)) a) := by
  intro Hx H σ env Q p
  refine h Hx H σ env _ (p.seq ?_)
  rintro x H1 ⟨Hx1, d, g, rx, p1⟩
  obtain ⟨z, hz, p1⟩ := p1.ofO
  refine ⟨by show 2 ≤ sizeLine; decide, fun q hq => ?_⟩
  unfold bOf at hz
  cases hb : is2 T1 T2 d with
  | none =>
    rw [hb] at hz
    cases hz
  | some b =>
    rw [hb] at hz
    cases hz
    unfold is2 at hb
    cases ht : tyN d with
    | none =>
      rw [ht] at hb
      cases hb
    | some t =>
      rw [ht] at hb
      have hb : ((kitB t T1).bind fun b => if b = true then some true else kitB t T2) = some b := hb
      cases h1 : kitB t T1 with
      | none =>
        rw [h1] at hb
        cases hb
      | some b1 =>
        rw [h1] at hb
        have hb : (if b1 = true then some true else kitB t T2) = some b := hb
        have gg := Gw.new (o := .tup [.ty T1, .ty T2]) g.2.2.1 hq
        refine ⟨x, q, [.ty T1, .ty T2], .type t, [.type T1, .type T2], b, rfl, upd_same, .cons (.ty T1) (.cons (.ty T2) .nil), tyN_R gg.2.2.1 (rx.mono gg.1) ht, ?_, p1 _ _ _ gg (.bl _)⟩
        cases b1 with
        | true =>
          cases hb
          exact kitAny_cons (kit_ty h1) (fun q => by cases q) fun _ => rfl
        | false =>
          have hb : kitB t T2 = some b := hb
          refine kitAny_cons (r := b) (kit_ty h1) (fun _ => ?_) (fun q => by cases q)
          cases b with
          | true => exact kitAny_cons (kit_ty hb) (fun q => by cases q) fun _ => rfl
          | false => exact kitAny_cons (kit_ty hb) (fun _ => kitAny_nil) fun q => q
/-! ### instances -/
def dFld (C : Addr) (f : Str) : D → Option D
  | .ins C' gs => if C' = C then gs.lookup f else none
  | _ => none
theorem ev_fld {C : Addr} {f : Str} {te : TE} {a : Rs D} (c : Cls K C) (n : NoAttr K C f) (h : EvD K W te δ a) : EvD K W (tFld K te f) δ (e1 (dFld C f) a) := by
  intro Hx H σ env Q p
  refine h Hx H σ env _ (p.seq ?_)
  rintro x H1 ⟨Hx1, d, g, rx, p1⟩
  obtain ⟨z, hz, p0⟩ := p1.ofO
  clear p1
  cases rx with
  | @ins q C' dx fs gs h1 h2 =>
    have hz' : (if C' = C then gs.lookup f else none) = some z := hz
    have pp := p0
    clear hz p0
    split at hz'
    · rename_i e
      subst e
      obtain ⟨v, h3, h4⟩ := h2.look hz'
      exact ⟨q, C', dx, fs, v, rfl, g.2.2.1 _ _ h1, c, n, h3, pp _ _ _ (.refl g.2.2.1) h4⟩
    · cases hz'
  | _ => cases hz
abbrev WOf (E : XK) : WX := fun c d _ H => E c d H
/-- o.m(..) -/
def eMeth (C : Addr) (m : Str) (f : List D → Rs D) (a : Rs D) (as : Rs (List D)) : Rs D := a.bind fun x => match x with
  | .ins C' gs => if C' = C ∧ gs.lookup m = none then as.bind fun xs => f (.ins C' gs :: xs) else .bad
  | _ => .bad
theorem ev_meth {E : XK} {C : Addr} {m : Str} {f : List D → Rs D} {to : TE} {ta : TA} {a : Rs D} {as : Rs (List D)} (h1 : EvD K (WOf E) to δ a) (h2 : EvA K (WOf E) ta δ as) : EvD K (WOf E) (tMeth C m (spD K f) [] E to ta) δ (eMeth C m f a as) := by
  intro Hx H σ env Q p
  refine h1 Hx H σ env _ (p.seq ?_)
  rintro x H1 ⟨Hx1, d, g, rx, p1⟩
  cases rx with
  | @ins q C' dx fs gs r1 r2 =>
    have pp : Pst (RelD K) K (WOf E) σ Hx1 H1 Q (if C' = C ∧ gs.lookup m = none then as.bind fun xs => f (.ins C' gs :: xs) else .bad) := p1
    clear p1
    split at pp
    · rename_i hc
      obtain ⟨e, hl⟩ := hc
      subst e
      refine ⟨q, dx, fs, rfl, g.2.2.1 _ _ r1, r2.noLook hl, ?_⟩
      refine h2 Hx1 H1 σ (env.gw g) _ (pp.seq ?_)
      rintro xs H2 ⟨Hx2, ds, g2, rxs, p2⟩
      refine ⟨Hx2, .ins C' gs :: ds, g2.2.2.1, ?_, ?_⟩
      · rw [List.append_nil]
        exact .cons (.ins (g2.1 _ _ r1) (r2.mono g2.1)) rxs
      · cases hf : f (.ins C' gs :: ds) with
        | ok d =>
          rw [hf] at p2
          exact p2
        | exc e =>
          rw [hf] at p2
          exact p2
        | bad =>
          rw [hf] at p2
          exact p2.elim
    · exact pp.elim
  | _ => exact p1.elim
/-- a property, which raises nothing -/
def eProp (C : Addr) (f : List D → Rs D) (a : Rs D) : Rs D := a.bind fun x => match x with
  | .ins C' gs => if C' = C then (match f [.ins C' gs] with
    | .ok d => .ok d
    | _ => .bad) else .bad
  | _ => .bad
theorem ev_prop {E : XK} {C : Addr} {f : List D → Rs D} {to : TE} {a : Rs D} (h1 : EvD K W to δ a) : EvD K W (tProp C (spD K f) [] E to) δ (eProp C f a) := by
  intro Hx H σ env Q p
  refine h1 Hx H σ env _ (p.seq ?_)
  rintro x H1 ⟨Hx1, d, g, rx, p1⟩
  cases rx with
  | @ins q C' dx fs gs r1 r2 =>
    have pp : Pst (RelD K) K W σ Hx1 H1 Q (if C' = C then (match f [.ins C' gs] with | .ok d => .ok d | _ => .bad) else .bad) := p1
    clear p1
    split at pp
    · rename_i e
      subst e
      refine ⟨q, dx, fs, rfl, g.2.2.1 _ _ r1, Hx1, [.ins C' gs], g.2.2.1, .one (.ins r1 r2), ?_⟩
      cases hf : f [.ins C' gs] with
      | ok d =>
        rw [hf] at pp
        exact pp
      | exc e =>
        rw [hf] at pp
        exact pp.elim
      | bad =>
        rw [hf] at pp
        exact pp.elim
    · exact pp.elim
  | _ => exact p1.elim
/-! ### C(..) -/
/-- the promise of an __init__ that lays the fields f -/
def PsF (K : PySem.W.Frag) (B0 H : Hp) (a C : Addr) (Q : VK) (E : XK) : Rs (List (Str × D)) → Prop
  | .ok gs => ∀ Hb' H' dx fs, Ex B0 Hb' → Ex Hb' H' → (∀ b o, b ≠ a → H b = some o → H' b = some o) → (∀ b o, B0 b = none → H b = some o → Hb' b = none) → H' a = some (.ins C dx fs) → RF K Hb' fs gs → Q .non H'
  | .exc e => ∀ cls dd Hb' H', Ex B0 Hb' → Ex Hb' H' → (∀ b o, b ≠ a → H b = some o → H' b = some o) → (∀ b o, B0 b = none → H b = some o → Hb' b = none) → XR K Hb' cls dd e → E cls dd H'
  | .bad => False
def spI (K : PySem.W.Frag) (C : Addr) (f : List D → Rs (List (Str × D))) : Sp := fun vs H Q E => ∃ a dx B0 args ds, vs = .ref a :: args ∧ H a = some (.ins C dx []) ∧ B0 a = none ∧ Ex B0 H ∧ RA K B0 args ds ∧ PsF K B0 H a C Q E (f ds)
def eMake (C : Addr) (f : List D → Rs (List (Str × D))) (as : Rs (List D)) : Rs D := as.bind fun xs => (f xs).bind fun gs => .ok (.ins C gs)
theorem ev_make {E : XK} {C : Addr} {f : List D → Rs (List (Str × D))} {ta : TA} {as : Rs (List D)} (h : EvA K (WOf E) ta δ as) : EvD K (WOf E) (tMake C (spI K C f) [] E ta) δ (eMake C f as) := by
  intro Hx H σ env Q p
  refine h Hx H σ env _ (p.seq ?_)
  rintro xs H1 ⟨Hx1, ds, g, rx, p1⟩
  intro x dx nx ndx nex
  have ex := g.2.2.1
  have old : ∀ b o, H1 b = some o → (upd (upd H1 dx (.own x)) x (.ins C dx [])) b = some o := fun b o e => by
    rw [upd_ne (ne_of_none e nx), upd_ne (ne_of_none e ndx)]
    exact e
  have hx : Hx1 x = none := fresh_back ex nx
  refine ⟨x, dx, Hx1, xs, ds, by rw [List.append_nil], upd_same, hx, fun b o e => old b o (ex b o e), rx, ?_⟩
  cases hf : f ds with
  | ok gs =>
    rw [hf] at p1
    intro Hb' H' dx' fs e1 e2 k hid ea rf
    refine ⟨rfl, ?_⟩
    have hbx : Hb' x = none := hid x _ hx upd_same
    have eu : Ex Hb' (upd Hb' x (.ins C dx' fs)) := Evl.Ex.new hbx
    refine p1 (.ref x) (upd Hb' x (.ins C dx' fs)) H' ⟨e1.trans eu, fun b o e => k b o (ne_of_none e nx) (old b o e), fun b o e => ?_, fun b o h1 h2 => ?_⟩ (.ins upd_same (rf.mono eu))
    · by_cases hb : b = x
      · subst hb
        rw [upd_same] at e
        cases e
        exact ea
      · rw [upd_ne hb] at e
        exact e2 b o e
    · rw [upd_ne (ne_of_none h2 nx)]
      exact hid b o h1 (old b o h2)
  | exc e =>
    rw [hf] at p1
    intro cls dd Hb' H' e1 e2 k hid xr
    exact p1 cls dd Hb' H' ⟨e1, fun b o e => k b o (ne_of_none e nx) (old b o e), e2, fun b o h1 h2 => hid b o h1 (old b o h2)⟩ xr
  | bad =>
    rw [hf] at p1
    exact p1.elim
/-- self.f = e -/
def putFX (f : Str) (x : Xv) : List (Str × Xv) → List (Str × Xv)
  | [] => [(f, x)]
  | (g, y) :: r => if g = f then (g, x) :: r else (g, y) :: putFX f x r
theorem RXf.length {ρ : List Addr} {Hb : Hp} {vs : List (Str × V)} {xs : List (Str × Xv)} (r : RXf K ρ Hb vs xs) : vs.length = xs.length := Paired.length r
theorem RXf.put {ρ : List Addr} {Hb : Hp} {f : Str} {v : V} {x : Xv} {vs : List (Str × V)} {xs : List (Str × Xv)} (r : RXf K ρ Hb vs xs) (rx : RX K ρ Hb v x) : RXf K ρ Hb (putF f v vs) (putFX f x xs) := by
  induction r with
  | nil => exact .cons ⟨rfl, rx⟩ .nil
  | @cons p q vs xs h t ih =>
    obtain ⟨g, u⟩ := p
    obtain ⟨g', y⟩ := q
    obtain ⟨e, r⟩ := h
    dsimp only at e r
    subst e
    show RXf K ρ Hb (if g = f then (g, v) :: vs else (g, u) :: putF f v vs) (if g = f then (g, x) :: xs else (g, y) :: putFX f x xs)
    by_cases hg : g = f
    · rw [if_pos hg, if_pos hg]
      exact .cons ⟨rfl, rx⟩ t
    · rw [if_neg hg, if_neg hg]
      exact .cons ⟨rfl, r⟩ ih
def sFldP (C : Addr) (f : Str) (mo me : S → Rs Xv) (s : S) : Out := oX s (me s) fun x => oX s (mo s) fun c => match cellOf s c with
  | some (k, .ins C' fs) => if C' = C ∧ fs.length < 1000 then .nx (s.setCell k (.ins C' (putFX f x fs))) else .bad
  | _ => .bad
theorem rn_fld {C : Addr} {f : Str} {to te : TE} {mo me : S → Rs Xv} (cl : Cls K C) (na : NoAttr K C f) (ho : EvX P w K W to mo) (he : EvX P w K W te me) : Rn P w K W (sFld K to te f) (sFldP C f mo me) := by
  intro s B0 H0 A0 ρ Hb H σ E F q
  refine he s B0 H0 A0 ρ Hb H σ F _ (PsX.seq q ?_)
  intro u x Hb1 H1 g1 F1 rx q
  refine ho s B0 H0 A0 ρ Hb1 H1 σ F1 _ (PsX.seq q ?_)
  intro v c Hb2 H2 g2 F2 rc q
  split at q
  · rename_i k C' fs hc
    have q' : Mt P w K W B0 H0 A0 Hb2 E (if C' = C ∧ fs.length < 1000 then .nx (s.setCell k (.ins C' (putFX f x fs))) else .bad) := q
    clear q
    split at q'
    · rename_i hz
      obtain ⟨e, hz⟩ := hz
      subst e
      obtain ⟨a, ho, rfl, ha, hh, ⟨dx, vs, rfl, r4⟩, hk⟩ := F2.cell rc hc
      refine ⟨a, C', dx, vs, rfl, hh, cl, na, by rw [r4.length]; exact hz, ?_⟩
      exact q' ρ Hb2 _ σ (.refl _) (F2.write (o' := .ins C' (putFX f x fs)) hk ha ⟨dx, _, rfl, r4.put (rx.up g2)⟩)
    · exact q'.elim
  · exact q.elim
def datF : List (Str × Xv) → Option (List (Str × D))
  | [] => some []
  | (f, .dat d) :: r => (datF r).map ((f, d) :: ·)
  | (_, .cell _) :: _ => none
theorem datF_R {ρ : List Addr} {Hb : Hp} : ∀ {vs : List (Str × V)} {xs : List (Str × Xv)} {ds : List (Str × D)}, RXf K ρ Hb vs xs → datF xs = some ds → RF K Hb vs ds
  | _, [], _, r, h => by
    cases r
    cases h
    exact .nil
  | _, (f, .dat d) :: r', _, r, h => by
    unfold datF at h
    cases e : datF r' with
    | none =>
      rw [e] at h
      cases h
    | some es =>
      rw [e] at h
      cases h
      cases r with
      | @cons p _ vs _ h1 h2 =>
        obtain ⟨g, v⟩ := p
        obtain ⟨e1, r1⟩ := h1
        dsimp only at e1 r1
        subst e1
        exact .cons r1 (datF_R h2 e)
  | _, (_, .cell _) :: _, _, _, h => by cases h
def startI (C : Addr) (n : Nat) (ds : List D) : S := ⟨some (.cell 0) :: (ds.map (fun d => some (.dat d)) ++ List.replicate (n - (ds.length + 1)) none), [some (.ins C [])]⟩
def endI (C : Addr) : Out → Rs (List (Str × D))
  | .nx s => match s.ce[0]? with
    | some (some (OO.ins C' fs)) => if C' = C then ofO (datF fs) else .bad
    | _ => .bad
  | .exc e s => match s.ce[0]? with
    | some (some _) => .exc e
    | _ => .bad
  | _ => .bad
def fnI (C : Addr) (n np : Nat) (m : S → Out) (ds : List D) : Rs (List (Str × D)) := if ds.length + 1 = np then endI C (m (startI C n ds)) else .bad
variable {mg : Str → Option Value} {base : Heap}
theorem fr_startI {N : List Str} {B0 H : Hp} {C a dx : Addr} {vs : List V} {ds : List D} (e : Ex B0 H) (hb : B0 a = none) (ha : H a = some (.ins C dx [])) (r : RA K B0 vs ds) : Fr P w K B0 (del H a) [a] [a] B0 H (L2.start N (.ref a :: vs)) (startI C N.length ds) where
  ex := e
  b0 := .refl _
  h0 := fun b o h => by
    by_cases hba : b = a
    · subst hba
      rw [del_same] at h
      cases h
    · rw [del_ne hba] at h
      exact h
  hid := fun _ _ h _ => h
  len := rfl
  slen := by
    unfold L2.start startI
    simp [r.length]
  nd := by simp
  anc := fun _ h => h
  there := fun b h => by
    have : b = a := by simpa using h
    subst this
    exact ⟨⟨_, ha⟩, del_same⟩
  sl := fun i x h => by
    cases i with
    | zero =>
      have h : some (some (Xv.cell 0)) = some (some x) := h
      cases h
      exact ⟨.ref a, rfl, a, rfl, rfl⟩
    | succ i =>
      have h : (ds.map (fun d => some (Xv.dat d)) ++ List.replicate (N.length - (ds.length + 1)) none)[i]? = some (some x) := h
      show ∃ v, (vs.map some ++ List.replicate (N.length - (vs.length + 1)) none)[i]? = some (some v) ∧ RX K [a] B0 v x
      by_cases hi : i < ds.length
      · rw [List.getElem?_append_left (by simpa using hi)] at h
        obtain ⟨d, h1, h2⟩ := map_get_some h
        cases h2
        obtain ⟨v, h3, h4⟩ := r.get h1
        refine ⟨v, ?_, h4⟩
        rw [List.getElem?_append_left (by simpa [r.length] using hi)]
        simp [h3]
      · rw [List.getElem?_append_right (by simpa using hi)] at h
        rw [List.getElem?_replicate] at h
        split at h <;> cases h
  ce := fun k o h => by
    cases k with
    | zero =>
      have h : some (some (OO.ins C [])) = some (some o) := h
      cases h
      exact ⟨a, _, rfl, hb, ha, dx, [], rfl, .nil⟩
    | succ k => cases h
theorem init_ok {C : Addr} {x qual : Str} {st : Stmt} {f : Addr} {fd : FuncData} {N ps : List Str} {k : Nat} {m : S → Out} (F : Fun K x qual st f fd) (Sc : FnScope N ps (defScope st))
    (hbody : ∀ (cdv : Value) (A : Around) (outer : List PySem.Env) (s : Shared) (H : Hp) (E : XK), Room k (A.deeper (envOfC qual (defScope st) s.heap.objs.size f cdv)) →
      ∃ t, PSs (cxOf (L2.CX P w) P w K mg base N qual (defScope st) f cdv A outer s H E) (defBody st) t ∧ Rn P w K (WOf E) t m) :
    FnOk P w K mg base (L2.CX P w) (k + 1) f fd ps (spI K C (fnI C N.length ps.length m)) := by
  refine F.okX Sc (fun vs H Q E h => ?_) (fun cdv A outer s H vs Q E hr h => ?_)
  · obtain ⟨a, dx, B0, args, ds, rfl, _, _, _, r, p⟩ := h
    unfold fnI at p
    split at p
    · rename_i hl
      rw [List.length_cons, r.length]
      exact hl
    · exact p.elim
  · obtain ⟨t, h1, h2⟩ := hbody cdv A outer s H E hr
    obtain ⟨a, dx, B0, args, ds, rfl, ha, hb, e, r, p⟩ := h
    refine ⟨t, h1, h2 (startI C N.length ds) B0 (del H a) [a] [a] B0 H _ _ (fr_startI e hb ha r) ?_⟩
    unfold fnI at p
    have back : ∀ {H' : Hp}, Ex (del H a) H' → ∀ b o, b ≠ a → H b = some o → H' b = some o := fun e b o hne q => e b o (by rw [del_ne hne]; exact q)
    have hidA : ∀ {Hb' : Hp}, (∀ b o, B0 b = none → del H a b = some o → Hb' b = none) → Hb' a = none → ∀ b o, B0 b = none → H b = some o → Hb' b = none := fun q qa b o q1 q2 => by
      by_cases hba : b = a
      · rw [hba]
        exact qa
      · exact q b o q1 (by rw [del_ne hba]; exact q2)
    split at p
    · cases ho : m (startI C N.length ds) with
      | nx s' =>
        rw [ho] at p
        intro ρ Hb' H' σ _ F'
        have h0 : ρ[0]? = some a := by
          rw [← List.head?_eq_getElem?]
          exact F'.anc a rfl
        unfold endI at p
        dsimp only at p
        split at p
        · rename_i C' fs hc
          split at p
          · rename_i hC
            subst hC
            obtain ⟨a', ho', q1, q2, q3, dx', vs, rfl, q4⟩ := F'.ce 0 _ hc
            rw [h0] at q1
            cases q1
            cases hd : datF fs with
            | none =>
              rw [hd] at p
              exact p.elim
            | some gs =>
              rw [hd] at p
              exact p Hb' H' dx' vs F'.b0 F'.ex (back F'.h0) (hidA F'.hid q2) q3 (datF_R q4 hd)
          · exact p.elim
        · exact p.elim
      | exc x s' =>
        rw [ho] at p
        intro cls dd ρ Hb' H' σ _ F' xr
        have h0 : ρ[0]? = some a := by
          rw [← List.head?_eq_getElem?]
          exact F'.anc a rfl
        unfold endI at p
        dsimp only at p
        split at p
        · rename_i o hc
          obtain ⟨a', ho', q1, q2, q3, q4⟩ := F'.ce 0 _ hc
          rw [h0] at q1
          cases q1
          exact p cls dd Hb' H' F'.b0 F'.ex (back F'.h0) (hidA F'.hid q2) xr
        · exact p.elim
      | ret d =>
        rw [ho] at p
        exact p.elim
      | bk s' =>
        rw [ho] at p
        exact p.elim
      | ct s' =>
        rw [ho] at p
        exact p.elim
      | bad =>
        rw [ho] at p
        exact p.elim
      | own s' i' =>
        rw [ho] at p
        exact p.elim
    · exact p.elim
end
end DL
set_option Elab.async false
set_option linter.all false
set_option maxRecDepth 100000
set_option maxHeartbeats 4000000
/-! The data layer, 9: calls of defs that stand by name, raise of own errors, chains, stars. -/
namespace DL
open PySem PySem.Spec PyProof.Rows L2
open Evl (Ex ex_l ex_t fresh_back)
set_option autoImplicit false
section
variable {P : Program} {w : World} {K : PySem.W.Frag} {W : WX} {δ : Dv}
/-! ### and, or, not as values -/
def vAnd (a b : Rs D) : Rs D := a.bind fun x => match x with
  | .bl c => if c = true then b else .ok (.bl false)
  | _ => .bad
def vOr (a b : Rs D) : Rs D := a.bind fun x => match x with
  | .bl c => if c = true then .ok (.bl true) else b
  | _ => .bad
def vNot (a : Rs D) : Rs D := a.bind fun x => match x with
  | .bl c => .ok (.bl (!c))
  | _ => .bad
theorem ev_andV {ta tb : TE} {a b : Rs D} (h1 : EvD K W ta δ a) (h2 : EvD K W tb δ b) : EvD K W (tAndV ta tb) δ (vAnd a b) := by
  intro Hx H σ env Q p
  refine h1 Hx H σ env _ (p.seq ?_)
  rintro x H1 ⟨Hx1, d, g, rx, p1⟩
  cases rx with
  | bl c =>
    refine ⟨c, rfl, ?_⟩
    cases c with
    | true => exact iteT (h2 Hx1 H1 σ (env.gw g) Q p1)
    | false => exact iteF (p1 (.bl false) Hx1 H1 (.refl g.2.2.1) (.bl false))
  | _ => exact p1.elim
theorem ev_orV {ta tb : TE} {a b : Rs D} (h1 : EvD K W ta δ a) (h2 : EvD K W tb δ b) : EvD K W (tOrV ta tb) δ (vOr a b) := by
  intro Hx H σ env Q p
  refine h1 Hx H σ env _ (p.seq ?_)
  rintro x H1 ⟨Hx1, d, g, rx, p1⟩
  cases rx with
  | bl c =>
    refine ⟨c, rfl, ?_⟩
    cases c with
    | false => exact iteF (h2 Hx1 H1 σ (env.gw g) Q p1)
    | true => exact iteT (p1 (.bl true) Hx1 H1 (.refl g.2.2.1) (.bl true))
  | _ => exact p1.elim
theorem ev_notV {ta : TE} {a : Rs D} (h1 : EvD K W ta δ a) : EvD K W (tNotV ta) δ (vNot a) := by
  intro Hx H σ env Q p
  refine h1 Hx H σ env _ (p.seq ?_)
  rintro x H1 ⟨Hx1, d, g, rx, p1⟩
  cases rx with
  | bl c => exact ⟨c, rfl, p1 (.bl (!c)) Hx1 H1 (.refl g.2.2.1) (.bl _)⟩
  | _ => exact p1.elim
/-! ### a < b < c -/
def eChain (f g : D → D → Option D) (a b c : Rs D) : Rs D := a.bind fun x => b.bind fun y => (ofO (f x y)).bind fun z => match z with
  | .bl k => if k = true then c.bind fun w => ofO (g y w) else .ok (.bl false)
  | _ => .bad
theorem ev_chain {r r' : R2} {f g : D → D → Option D} {ta tb tc : TE} {a b c : Rs D} (ho : OpD K r f) (ho' : OpD K r' g) (h1 : EvD K W ta δ a) (h2 : EvD K W tb δ b) (h3 : EvD K W tc δ c) : EvD K W (tChain r r' ta tb tc) δ (eChain f g a b c) := by
  intro Hx H σ env Q p
  refine h1 Hx H σ env _ (p.seq ?_)
  rintro x H1 ⟨Hx1, d, g1, rx, p1⟩
  refine h2 Hx1 H1 σ (env.gw g1) _ (p1.seq ?_)
  rintro y H2 ⟨Hx2, e, g2, ry, p2⟩
  cases hz : f d e with
  | none =>
    rw [hz] at p2
    exact p2.elim
  | some z =>
    rw [hz] at p2
    refine ho Hx2 H2 x y d e z g2.2.2.1 (rx.mono g2.1) ry hz _ ?_
    intro v Hx3 H3 g3 rv
    have p3 := Pst.later p2 g3
    cases rv with
    | bl k =>
      refine ⟨k, rfl, ?_⟩
      cases k with
      | false => exact iteF (p3 (.bl false) Hx3 H3 (.refl g3.2.2.1) (.bl false))
      | true =>
        refine iteT ?_
        have p3 : Pst (RelD K) K W σ Hx3 H3 Q (c.bind fun w => ofO (g e w)) := p3
        refine h3 Hx3 H3 σ (((env.gw g1).gw g2).gw g3) _ (p3.seq ?_)
        rintro u H4 ⟨Hx4, w', g4, ru, p4⟩
        obtain ⟨z', hz', p4⟩ := p4.ofO
        exact ho' Hx4 H4 y u e w' z' g4.2.2.1 ((ry.mono g3.1).mono g4.1) ru hz' Q p4
    | _ => exact p3.elim
/-! ### *e in a display -/
def aStar (a : Rs D) (as : Rs (List D)) : Rs (List D) := a.bind fun x => (ofO (seqOf x)).bind fun ys => as.bind fun xs => .ok (ys ++ xs)
theorem ev_star {ta : TE} {tr : TA} {a : Rs D} {as : Rs (List D)} (h1 : EvD K W ta δ a) (h2 : EvA K W tr δ as) : EvA K W (StX.tStar K ta tr) δ (aStar a as) := by
  intro Hx H σ env Q p
  refine h1 Hx H σ env _ (p.seq ?_)
  rintro x H1 ⟨Hx1, d, g, rx, p1⟩
  cases rx with
  | lst q1 q2 =>
    refine ⟨_, _, rfl, .inr (SqL.of (g.2.2.1 _ _ q1)), ?_⟩
    refine h2 Hx1 H1 σ (env.gw g) _ (Pst.seq (f := fun xs => Rs.ok (_ ++ xs)) p1 ?_)
    rintro xs H2 ⟨Hx2, ds, g2, rxs, p2⟩
    exact p2 _ Hx2 H2 (.refl g2.2.2.1) ((q2.mono g2.1).append rxs)
  | tup q1 q2 =>
    refine ⟨_, _, rfl, .inl (ex_t g.2.2.1 q1), ?_⟩
    refine h2 Hx1 H1 σ (env.gw g) _ (Pst.seq (f := fun xs => Rs.ok (_ ++ xs)) p1 ?_)
    rintro xs H2 ⟨Hx2, ds, g2, rxs, p2⟩
    exact p2 _ Hx2 H2 (.refl g2.2.2.1) ((q2.mono g2.1).append rxs)
  | _ => exact p1.elim
/-! ### calls -/
theorem spD_of {f : List D → Rs D} {E : XK} {σ : L2.St} {Hx H : Hp} {vs : List V} {ds : List D} {Q : VK} (ex : Ex Hx H) (r : RA K Hx vs ds) (p : Pst (RelD K) K (WOf E) σ Hx H Q (f ds)) : spD K f vs H Q E := by
  refine ⟨Hx, ds, ex, r, ?_⟩
  cases hf : f ds with
  | ok d =>
    rw [hf] at p
    exact p
  | exc e =>
    rw [hf] at p
    exact p
  | bad =>
    rw [hf] at p
    exact p.elim
theorem ev_call {E : XK} {f : List D → Rs D} {ta : TA} {as : Rs (List D)} (h : EvA K (WOf E) ta δ as) : EvD K (WOf E) (tCall (spD K f) [] E ta) δ (as.bind f) := by
  intro Hx H σ env Q p
  refine h Hx H σ env _ (p.seq ?_)
  rintro xs H1 ⟨Hx1, ds, g, rx, p1⟩
  rw [List.append_nil]
  exact spD_of g.2.2.1 rx p1
/-- within a comprehension -/
theorem ev_call0 {f : List D → Rs D} {ta : TA} {as : Rs (List D)} (h : EvA K W0 ta δ as) : EvD K W0 (tCall (spD K f) [] E0 ta) δ (as.bind f) := ev_call (E := E0) h
/-- f(.., k = v): the keywords' values behind the others -/
def gApp : List V → List V → List V := fun us ws => us ++ ws
def eCallN (n m : Nat) (f : List D → Rs D) (as bs : Rs (List D)) : Rs D := as.bind fun xs => bs.bind fun ys => if xs.length = n ∧ ys.length = m then f (xs ++ ys) else .bad
theorem ev_callN {n m : Nat} {E : XK} {f : List D → Rs D} {ta tk : TA} {as bs : Rs (List D)} (h : EvA K (WOf E) ta δ as) (h2 : EvA K (WOf E) tk δ bs) : EvD K (WOf E) (tCallN n m (spD K f) gApp E ta tk) δ (eCallN n m f as bs) := by
  intro Hx H σ env Q p
  refine h Hx H σ env _ (p.seq ?_)
  rintro xs H1 ⟨Hx1, ds, g, rx, p1⟩
  refine h2 Hx1 H1 σ (env.gw g) _ (p1.seq ?_)
  rintro ys H2 ⟨Hx2, es, g2, ry, p2⟩
  have p2' : Pst (RelD K) K (WOf E) σ Hx2 H2 Q (if ds.length = n ∧ es.length = m then f (ds ++ es) else .bad) := p2
  clear p2
  split at p2'
  · rename_i hl
    exact ⟨rx.length.trans hl.1, ry.length.trans hl.2, spD_of g2.2.2.1 ((rx.mono g2.1).append ry) p2'⟩
  · exact p2'.elim
end
/-- the def x stands at its name and keeps sp -/
def Has (P : Program) (w : World) (K : PySem.W.Frag) (mg : Str → Option Value) (base : Heap) (k : Nat) (x : Str) (ps : List Str) (sp : Sp) : Prop :=
  ∃ (f : Addr) (fd : FuncData), mg x = some (.ref f) ∧ PySem.W.keepIn K (.ref f) = true ∧ Binds K fd ps [] ∧ FnOk P w K mg base (L2.CX P w) k f fd ps sp
def HasN (P : Program) (w : World) (K : PySem.W.Frag) (mg : Str → Option Value) (base : Heap) (k : Nat) (x : Str) (ps : List Str) (n : Nat) (ks : List Str) (sp : Sp) : Prop :=
  ∃ (f : Addr) (fd : FuncData), mg x = some (.ref f) ∧ PySem.W.keepIn K (.ref f) = true ∧ (∃ g, KBn K fd ps n ks g gApp) ∧ FnOk P w K mg base (L2.CX P w) k f fd ps sp
/-- a method of the class at C -/
def HasM (P : Program) (w : World) (K : PySem.W.Frag) (mg : Str → Option Value) (base : Heap) (k : Nat) (C : Addr) (m : Str) (ps : List Str) (sp : Sp) : Prop :=
  ∃ (f : Addr) (fd : FuncData), Meth K C m f ∧ Binds K fd ps [] ∧ FnOk P w K mg base (L2.CX P w) k f fd ps sp
def HasI (P : Program) (w : World) (K : PySem.W.Frag) (mg : Str → Option Value) (base : Heap) (k : Nat) (x : Str) (C : Addr) (ps : List Str) (sp : Sp) : Prop :=
  ∃ (f : Addr) (fd : FuncData), Mk K C f ∧ mg x = some (.ref C) ∧ Binds K fd ps [] ∧ FnOk P w K mg base (L2.CX P w) k f fd ps sp
def HasP (P : Program) (w : World) (K : PySem.W.Frag) (mg : Str → Option Value) (base : Heap) (k : Nat) (C : Addr) (m : Str) (ps : List Str) (sp : Sp) : Prop :=
  ∃ (p f : Addr) (fd : FuncData), PropOf K C m p f ∧ Binds K fd ps [] ∧ FnOk P w K mg base (L2.CX P w) k f fd ps sp
/-- an own error's class -/
def HasX (P : Program) (w : World) (K : PySem.W.Frag) (mg : Str → Option Value) (base : Heap) (k : Nat) (x : Str) (C : Addr) (ps : List Str) (sp : Sp) : Prop :=
  ∃ (f : Addr) (fd : FuncData), OexC K C ∧ PySem.W.findIn K (.ref C) "__init__" = some (some (.ref f)) ∧ PySem.W.typeIn K (.ref f) = some (.type "function") ∧ mg x = some (.ref C) ∧ Binds K fd ps [] ∧ FnOk P w K mg base (L2.CX P w) k f fd ps sp
section
variable {X : Cx} {k j n : Nat} {C : Addr} {x m : Str} {ps ks : List Str} {sp : Sp} {E : XK} {p pos apos : Pos} {e o : Expr} {es : List Expr} {kws : List Keyword} {ta : TE} {t tk : TA}
theorem pe_cal (h : Has X.prog X.w X.K X.mg X.base k x ps sp) (hr : Room j X.A) (hg : Gl X x) (hx : Passes (L2.CX X.prog X.w) X E) (ha : PA X (e :: es) t) (hj : k ≤ j := by decide)
    (hdb : (x == ("__debug__" : Str)) = false := by decide) (he : starEach (e :: es) X.env = (false, eval e X.env) :: starEach es X.env := by rfl) (hpl : (backTo pos (starEach es X.env)).any (·.1) = false := by rfl) :
    PE X (.Call (.Name x p) (e :: es) [] pos) (tCall sp [] E t) := by
  obtain ⟨f, fd, h1, h2, h3, h4⟩ := h
  exact pe_call h4 (hr.mono hj) hg h1 h2 h3 .nil hx ha hdb he hpl
theorem pe_cal0 (h : Has X.prog X.w X.K X.mg X.base k x ps sp) (hr : Room j X.A) (hg : Gl X x) (hx : Passes (L2.CX X.prog X.w) X E) (hj : k ≤ j := by decide) (hdb : (x == ("__debug__" : Str)) = false := by decide) : PE X (.Call (.Name x p) [] [] pos) (tCall sp [] E tNil) := by
  obtain ⟨f, fd, h1, h2, h3, h4⟩ := h
  exact pe_call0 h4 (hr.mono hj) hg h1 h2 h3 .nil hx hdb
theorem pe_calN (h : HasN X.prog X.w X.K X.mg X.base k x ps n ks sp) (hr : Room j X.A) (hg : Gl X x) (hx : Passes (L2.CX X.prog X.w) X E) (ha : PA X (e :: es) t) (hkw : PK X kws tk) (hj : k ≤ j := by decide)
    (hall : (backToKw pos (keywordEach kws X.env)).all (·.1.isSome) = true := by rfl) (hks : (backToKw pos (keywordEach kws X.env)).filterMap (·.1) = ks := by rfl)
    (hdb : (x == ("__debug__" : Str)) = false := by decide) (he : starEach (e :: es) X.env = (false, eval e X.env) :: starEach es X.env := by rfl)
    (hpl : ((backTo pos (starEach (e :: es) X.env)).any (·.1) || (backToKw pos (keywordEach kws X.env)).any (·.1.isNone)) = false := by rfl) :
    PE X (.Call (.Name x p) (e :: es) kws pos) (tCallN n ks.length sp gApp E t tk) := by
  obtain ⟨f, fd, h1, h2, ⟨g, h3⟩, h4⟩ := h
  exact pe_callN h4 (hr.mono hj) hg h1 h2 h3 hx ha hkw hall hks hdb he hpl
theorem pe_calN0 (h : HasN X.prog X.w X.K X.mg X.base k x ps 0 ks sp) (hr : Room j X.A) (hg : Gl X x) (hx : Passes (L2.CX X.prog X.w) X E) (hkw : PK X kws tk) (hj : k ≤ j := by decide)
    (hall : (backToKw pos (keywordEach kws X.env)).all (·.1.isSome) = true := by rfl) (hks : (backToKw pos (keywordEach kws X.env)).filterMap (·.1) = ks := by rfl)
    (hdb : (x == ("__debug__" : Str)) = false := by decide)
    (hpl : ((backTo pos (starEach [] X.env)).any (·.1) || (backToKw pos (keywordEach kws X.env)).any (·.1.isNone)) = false := by rfl) :
    PE X (.Call (.Name x p) [] kws pos) (tCallN 0 ks.length sp gApp E tNil tk) := by
  obtain ⟨f, fd, h1, h2, ⟨g, h3⟩, h4⟩ := h
  refine ⟨fun pins s σ H Q I h => ?_⟩
  refine wpAny_Call_Name_kw (ld_glob I hg h1 ?_ hdb)
  refine PySem.W.callWith_KW0 (h₀ := X.base) I.ok.mod.kin h2 hall ?_ hpl
  refine thn (hkw.run pos pins s σ H _ I h) fun ws s2 ⟨zs, H2, I2, rz, l1, l2, q2⟩ => ⟨I2.kIn, ?_⟩
  rw [hks]
  exact run_fnN (us := []) (vs := []) h4 (hr.mono hj) h3 hx I2 .nil rz rfl l2 q2
theorem pe_mth {pl : Sem Bool} (h : HasM X.prog X.w X.K X.mg X.base k C m ps sp) (c : Cls X.K C) (hr : Room j X.A) (hx : Passes (L2.CX X.prog X.w) X E) (he : PE X o ta) (ha : PA X (e :: es) t) (hj : k ≤ j := by decide)
    (hst : starEach (e :: es) X.env = (false, eval e X.env) :: starEach es X.env := by rfl) (hpl : (backTo pos (starEach es X.env)).any (·.1) = false := by rfl)
    (ht : eval (.Call (.Attribute o m apos) (e :: es) [] pos) X.env = (do
      let ov ← eval o X.env
      standAt apos.atName
      let (f, first) ← holding [ov] (getMethod ov m pl)
      callWith pos f first (backTo pos (starEach (e :: es) X.env)) (backToKw pos (keywordEach [] X.env))) := by rfl) :
    PE X (.Call (.Attribute o m apos) (e :: es) [] pos) (tMeth C m sp [] E ta t) := by
  obtain ⟨f, fd, h1, h2, h3⟩ := h
  exact pe_meth he c h1 h3 (hr.mono hj) h2 .nil hx ha hst hpl ht
theorem pe_mth0 {pl : Sem Bool} (h : HasM X.prog X.w X.K X.mg X.base k C m ps sp) (c : Cls X.K C) (hr : Room j X.A) (hx : Passes (L2.CX X.prog X.w) X E) (he : PE X o ta) (hj : k ≤ j := by decide)
    (ht : eval (.Call (.Attribute o m apos) [] [] pos) X.env = (do
      let ov ← eval o X.env
      standAt apos.atName
      let (f, first) ← holding [ov] (getMethod ov m pl)
      callWith pos f first (backTo pos (starEach [] X.env)) (backToKw pos (keywordEach [] X.env))) := by rfl) :
    PE X (.Call (.Attribute o m apos) [] [] pos) (tMeth C m sp [] E ta tNil) := by
  obtain ⟨f, fd, h1, h2, h3⟩ := h
  exact pe_meth0 he c h1 h3 (hr.mono hj) h2 .nil hx ht
theorem pe_mak (h : HasI X.prog X.w X.K X.mg X.base k x C ps sp) (hr : Room j X.A) (hg : Gl X x) (hx : Passes (L2.CX X.prog X.w) X E) (ha : PA X (e :: es) t) (hj : k + 1 ≤ j := by decide)
    (hdb : (x == ("__debug__" : Str)) = false := by decide) (he : starEach (e :: es) X.env = (false, eval e X.env) :: starEach es X.env := by rfl) (hpl : (backTo pos (starEach es X.env)).any (·.1) = false := by rfl) :
    PE X (.Call (.Name x p) (e :: es) [] pos) (tMake C sp [] E t) := by
  obtain ⟨f, fd, h1, h2, h3, h4⟩ := h
  exact pe_make h1 h4 (hr.mono hj) hg h2 h3 .nil hx ha hdb he hpl
theorem pmk_own' (h : HasX X.prog X.w X.K X.mg X.base k x C ps sp) (hr : Room j X.A) (hg : Gl X x) (hx : Passes (L2.CX X.prog X.w) X (fun _ _ _ => False)) (ha : PA X (e :: es) t) (hj : k + 1 ≤ j := by decide)
    (hdb : (x == ("__debug__" : Str)) = false := by decide) (he : starEach (e :: es) X.env = (false, eval e X.env) :: starEach es X.env := by rfl) (hpl : (backTo pos (starEach es X.env)).any (·.1) = false := by rfl) :
    PMk X (.Call (.Name x p) (e :: es) [] pos) (tMkO C sp [] t) := by
  obtain ⟨f, fd, h1, h2, h3, h4, h5, h6⟩ := h
  exact pmk_oex h1 h2 h3 h6 (hr.mono hj) h5 .nil hx hg h4 ha hdb he hpl
/-- a constant of the module -/
theorem pe_gl {v : V} (hm : ∃ u, X.mg x = some u ∧ RelV v u) (hg : Gl X x) (hd : (x == ("__debug__" : Str)) = false := by decide) : PE X (.Name x pos) (tC v) := by
  obtain ⟨u, h1, h2⟩ := hm
  exact pe_glob hg h1 h2 hd
end
section
variable {P : Program} {w : World} {K : PySem.W.Frag} {W : WX} {δ : Dv}
/-! ### raise X(e, ..), X an own error whose __init__ stores its arguments under fs -/
def spX (C : Addr) (fs : List Str) : Sp := fun vs H Q _ => ∃ a args, vs = .ref a :: args ∧ args.length = fs.length ∧ H a = some (exo a C none) ∧
  ∀ d H', H d = none → H' a = some (exo a C (some d)) → H' d = some (exd d (fs.zip args).reverse) → (∀ b o, b ≠ a → H b = some o → H' b = some o) → Q .non H'
def sRaise (C : Addr) (fs : List Str) (m : Dv → Rs (List D)) (s : S) : Out := oX s (m (envB s)) fun ds => if ds.length = fs.length ∧ ds.length ≤ 1000 then .exc ⟨C, (fs.zip ds).reverse⟩ s else .bad
theorem RF.append {H : Hp} : ∀ {vs us : List (Str × V)} {ds es : List (Str × D)}, RF K H vs ds → RF K H us es → RF K H (vs ++ us) (ds ++ es)
  | _, _, _, _, .nil, r => r
  | _, _, _, _, .cons h t, r => .cons h (RF.append t r)
theorem RF.rev {H : Hp} : ∀ {vs : List (Str × V)} {ds : List (Str × D)}, RF K H vs ds → RF K H vs.reverse ds.reverse
  | _, _, .nil => .nil
  | _, _, .cons h t => by
    rw [List.reverse_cons, List.reverse_cons]
    exact (RF.rev t).append (.cons h .nil)
theorem RF.zipped {H : Hp} : ∀ {fs : List Str} {vs : List V} {ds : List D}, RA K H vs ds → RF K H (fs.zip vs) (fs.zip ds)
  | [], _, _, _ => .nil
  | _ :: _, _, _, .nil => .nil
  | _ :: _, _, _, .cons r rs => .cons r (RF.zipped rs)
theorem rn_raise {C : Addr} {fs : List Str} {ta : TA} {m : Dv → Rs (List D)} (h : ∀ δ, EvA K W ta δ (m δ)) : Rn P w K W (fun _ σ H => tMkO C (spX C fs) [] ta σ H fun cls d H' => W cls d σ H') (sRaise C fs m) := by
  intro s B0 H0 A0 ρ Hb H σ E F q
  refine h (envB s) Hb H σ F.envB _ ?_
  unfold sRaise oX at q
  cases e : m (envB s) with
  | exc x =>
    rw [e] at q
    exact fun cls dd Hb' H' g x => q cls dd ρ Hb' H' σ g.1 (F.gw g) x
  | bad =>
    rw [e] at q
    exact q
  | ok ds =>
    rw [e] at q
    intro vs Hb1 H1 g r
    have q' : Mt P w K W B0 H0 A0 Hb E (if ds.length = fs.length ∧ ds.length ≤ 1000 then .exc ⟨C, (fs.zip ds).reverse⟩ s else .bad) := q
    clear q
    split at q'
    · rename_i hl
      have r : RA K Hb1 vs ds := r
      refine ⟨by rw [r.length]; exact hl.2, fun a ha => ⟨a, vs, by rw [List.append_nil], by rw [r.length]; exact hl.1, upd_same, fun d H2 hd ea ed keep => ⟨rfl, d, (fs.zip vs).reverse, ea, ed, ?_, ?_⟩⟩⟩
      · exact fresh_back (fun b o z => by rw [upd_ne (ne_of_none z ha)]; exact z) hd
      · have hd1 : H1 d = none := fresh_back (H' := upd H1 a (exo a C none)) (fun b o z => by rw [upd_ne (ne_of_none z ha)]; exact z) hd
        have hda : d ≠ a := fun z => by
          subst z
          rw [upd_same] at hd
          cases hd
        have old : ∀ b o, H1 b = some o → upd (del H2 a) d (.xd (fs.zip vs).reverse) b = some o := fun b o z => by
          rw [upd_ne (ne_of_none z hd1), del_ne (ne_of_none z ha)]
          exact keep b o (ne_of_none z ha) (by rw [upd_ne (ne_of_none z ha)]; exact z)
        have hdb : Hb1 d = none := fresh_back g.2.2.1 hd1
        have eb : Ex Hb1 (upd Hb1 d (.xd (fs.zip vs).reverse)) := Evl.Ex.new hdb
        have gw : Gw Hb1 H1 (upd Hb1 d (.xd (fs.zip vs).reverse)) (upd (del H2 a) d (.xd (fs.zip vs).reverse)) := ⟨eb, old, fun b o z => by
            by_cases hb : b = d
            · subst hb
              rw [upd_same] at z ⊢
              exact z
            · rw [upd_ne hb] at z
              exact old b o (g.2.2.1 b o z), fun b o z1 z2 => by
            rw [upd_ne (ne_of_none z2 hd1)]
            exact z1⟩
        exact q' (.ref C) (some d) ρ _ _ σ (g.1.trans eb) (F.gw (g.trans gw)) ⟨rfl, .inr ⟨d, _, rfl, upd_same, (RF.rev (RF.zipped r)).mono eb⟩⟩
    · exact q'.elim
variable {mg : Str → Option Value} {base : Heap}
/-- its __init__, of one argument -/
theorem xinit1 {C : Addr} {f qual : Str} {st : Stmt} {fa : Addr} {fd : FuncData} {p : Str} (F : Fun K "__init__" qual st fa fd) (Sc : FnScope ["self", p] ["self", p] (defScope st)) (T : OexC K C) (nf : PySem.W.findIn K (.ref C) f = some none)
    (hbody : ∀ (cdv : Value) (A : Around) (outer : List PySem.Env) (s : Shared) (H : Hp) (E : XK), PSs (cxOf (L2.CX P w) P w K mg base ["self", p] qual (defScope st) fa cdv A outer s H E) (defBody st) (tSeq (tOst K f (tVar 0) (tVar 1)) tNext)) :
    FnOk P w K mg base (L2.CX P w) 1 fa fd ["self", p] (spX C [f]) := by
  refine F.okX Sc (fun vs H Q E h => ?_) (fun cdv A outer s H vs Q E hr h => ?_)
  · obtain ⟨a, args, rfl, h1, _⟩ := h
    simpa using h1
  · obtain ⟨a, args, rfl, h1, ha, k⟩ := h
    obtain ⟨v, rfl⟩ : ∃ v, args = [v] := by
      cases args with
      | nil => cases h1
      | cons v r =>
        cases r with
        | nil => exact ⟨v, rfl⟩
        | cons _ _ => cases h1
    refine ⟨_, hbody cdv A outer s H E, ?_⟩
    refine ⟨_, rfl, _, rfl, a, C, rfl, T, nf, .inl ⟨ha, fun dx hd hne => ?_⟩⟩
    exact k dx _ hd upd_same (by rw [upd_ne hne, upd_same]; rfl) fun b o hb z => by
      rw [upd_ne hb, upd_ne (ne_of_none z hd)]
      exact z
end
end DL
set_option Elab.async false
set_option linter.all false
set_option maxRecDepth 100000
set_option maxHeartbeats 4000000
/-! The data layer, 10: words for printed terms. -/
namespace DL
open PySem PySem.Spec PyProof.Rows L2
open Evl (Ex ex_l ex_t fresh_back)
set_option autoImplicit false
section
variable {P : Program} {w : World} {K : PySem.W.Frag} {mg : Str → Option Value} {base : Heap} {N : List Str} {qual : Str} {sc : Scope} {f : Addr} {cdv : Value} {A : Around} {outer : List PySem.Env} {s : Shared} {H : Hp} {E : XK}
theorem tkX : Takes (cxOf (L2.CX P w) P w K mg base N qual sc f cdv A outer s H E) (WOf E) := takes_of rfl rfl rfl rfl
theorem hxX : Passes (L2.CX P w) (cxOf (L2.CX P w) P w K mg base N qual sc f cdv A outer s H E) E := passes_call tkX fun _ _ _ _ h => h
theorem poX : PassesOwn (model P w) (cxOf (L2.CX P w) P w K mg base N qual sc f cdv A outer s H E).A (cxOf (L2.CX P w) P w K mg base N qual sc f cdv A outer s H E).env (cxOf (L2.CX P w) P w K mg base N qual sc f cdv A outer s H E).xe := passes_of rfl
theorem hx0X : Passes (L2.CX P w) (cxOf (L2.CX P w) P w K mg base N qual sc f cdv A outer s H E) E0 := passes_call tkX fun _ _ _ _ h => h.elim
theorem hxF : Passes (L2.CX P w) (cxOf (L2.CX P w) P w K mg base N qual sc f cdv A outer s H E) (fun _ _ _ => False) := passes_call tkX fun _ _ _ _ h => h.elim
theorem def_is {x : Str} {st : Stmt} {fd : FuncData} {ps : List Str} {k n np : Nat} {m : S → Out} (F : Fun K x qual st f fd) (Sc : FnScope N ps (defScope st)) (hn : N.length = n) (hp : ps.length = np)
    (hbody : ∀ (cdv : Value) (A : Around) (outer : List PySem.Env) (s : Shared) (H : Hp) (E : XK), Room k (A.deeper (envOfC qual (defScope st) s.heap.objs.size f cdv)) →
      ∃ t, PSs (cxOf (L2.CX P w) P w K mg base N qual (defScope st) f cdv A outer s H E) (defBody st) t ∧ Rn P w K (WOf E) t m) :
    FnOk P w K mg base (L2.CX P w) (k + 1) f fd ps (spD K (fnD n np m)) := by
  subst hn hp
  exact def_ok F Sc hbody
theorem init_is {C : Addr} {x : Str} {st : Stmt} {fd : FuncData} {ps : List Str} {k n np : Nat} {m : S → Out} (F : Fun K x qual st f fd) (Sc : FnScope N ps (defScope st)) (hn : N.length = n) (hp : ps.length = np)
    (hbody : ∀ (cdv : Value) (A : Around) (outer : List PySem.Env) (s : Shared) (H : Hp) (E : XK), Room k (A.deeper (envOfC qual (defScope st) s.heap.objs.size f cdv)) →
      ∃ t, PSs (cxOf (L2.CX P w) P w K mg base N qual (defScope st) f cdv A outer s H E) (defBody st) t ∧ Rn P w K (WOf E) t m) :
    FnOk P w K mg base (L2.CX P w) (k + 1) f fd ps (spI K C (fnI C n np m)) := by
  subst hn hp
  exact init_ok F Sc hbody
/-- a def of which nothing is promised -/
theorem def_bad {x : Str} {st : Stmt} {fd : FuncData} {ps : List Str} {k : Nat} (F : Fun K x qual st f fd) (Sc : FnScope N ps (defScope st)) : FnOk P w K mg base (L2.CX P w) (k + 1) f fd ps (spD K fun _ => .bad) := by
  refine F.okX Sc (fun vs H Q E h => ?_) (fun cdv A outer s H vs Q E hr h => ?_)
  · obtain ⟨_, _, _, _, p⟩ := h
    exact p.elim
  · obtain ⟨_, _, _, _, p⟩ := h
    exact p.elim
end
end DL
set_option Elab.async false
set_option linter.all false
set_option maxRecDepth 100000
set_option maxHeartbeats 4000000
/-! The data layer, 11: enumerate over lists and tuples, own == and len, properties by name. -/
namespace DL
open PySem PySem.Spec PyProof.Rows L2
open Evl (Ex ex_l ex_t fresh_back)
set_option autoImplicit false
/-! ### enumerate -/
set_option maxHeartbeats 1000000 in
theorem enum_new1 {v : Value} {o : Obj} {H : Heap → Prop} (B : Begins v o H) :
    Meets (Builtin.«enumerate.__new__» ⟨[.type "enumerate", v], []⟩) (fun _ R s => H s.heap ∧
      R (.ok (.ret (.ref (s.heap.push o).objs.size))) { s with heap := (s.heap.push o).push { cls := .type "enumerate", data := .fields #[.none, .bool false, .ref s.heap.objs.size, rawInt 0, .none, .none] } }) :=
  .of_wp fun prog w A R s h => by
    obtain ⟨hp, g, d, tk, os⟩ := s; obtain ⟨h1, h⟩ := h
    have hsub := sub_enumerate
    have q1 : ∀ {A' : Around} {E : Value → Shared → Prop} {Q : Value → Shared → Prop}, Q (.ref hp.objs.size) ⟨hp.push o, g, d, tk, os⟩ → wpAny (model prog w) A' (pyIter v) Q E ⟨hp, g, d, tk, os⟩ :=
      fun q => B.iter prog w _ _ ⟨hp, g, d, tk, os⟩ _ h1 q
    wp_walk using q1
    refine wpAny_stack_any fun st => wpAny_pure ?_
    split
    · rename_i c _ _ _ _ _
      cases (c == Value.type "enumerate")
      · wp_walk using q1
        exact ⟨_, rfl, h⟩
      · wp_walk using q1
        exact ⟨_, rfl, h⟩
    · wp_walk using q1
      exact ⟨_, rfl, h⟩
section
variable {prog : Program} {w : World} {A : Around} {E : Value → Shared → Prop} {s : Shared}
theorem enum_begins1 {v : Value} {o : Obj} {H : Heap → Prop} {Q : Value → Shared → Prop} (B : Begins v o H) (h1 : H s.heap)
    (h : ∀ h', IsEnum h' (s.heap.objs.size + 1) s.heap.objs.size 0 .none → h'.get? s.heap.objs.size = some o → h'.objs.size = s.heap.objs.size + 2 →
      (∀ b o, s.heap.get? b = some o → h'.get? b = some o) → Q (.ref (s.heap.objs.size + 1)) { s with heap := h' }) :
    wpAny (model prog w) A (call (.type "enumerate") [v]) Q E s := by
  refine callType_new F.called_enumerate (by decide) (F.typeCall_enumerate_1 _) (F.newCall_enumerate_1 _) (fun obj => F.args_object_init_2 obj _) F.entry_enumerate_new (enum_new1 B) ⟨h1, ?_⟩
  have hz : (s.heap.push o).objs.size = s.heap.objs.size + 1 := Heap.size_push ..
  show _ ∧ _
  rw [hz]
  have he : IsEnum ((s.heap.push o).push { cls := .type "enumerate", data := .fields #[.none, .bool false, .ref s.heap.objs.size, rawInt 0, .none, .none] }) (s.heap.objs.size + 1) s.heap.objs.size 0 .none := by
    have := Heap.get?_push_size (s.heap.push o) (o := { cls := .type "enumerate", data := .fields #[.none, .bool false, .ref s.heap.objs.size, rawInt 0, .none, .none] }) rfl
    rw [hz] at this; exact this
  refine ⟨⟨_, he, rfl⟩, h _ he (Heap.get?_push_of_some _ (Heap.get?_push_size _ B.free)) (by rw [Heap.size_push, hz]) fun b o x => Heap.get?_push_of_some _ (Heap.get?_push_of_some _ x)⟩
end

section
variable {prog : Program} {w : World} {A : Around} {E : Value → Shared → Prop} {s : Shared}
theorem enum_end_tuple {e it a : Addr} {items : Array Value} {i : Nat} {c : Int} {old : Value} {Q : Option Value → Shared → Prop} (hh : A.handled = none) (he : IsEnum s.heap e it c old) (hit : s.heap.IsTupleIter it a i) (ha : s.heap.IsTuple a items) (hi : items.size ≤ i)
    (hQ : ∀ h', Heap.ExtBut it s.heap h' → Q none { s with heap := h' }) : wpAny (model prog w) A (pyNext (.ref e)) Q E s := by
  have hT : s.TypeIs (.ref e) "enumerate" := ⟨_, he, rfl⟩
  unfold pyNext
  refine wpAny_bind (wpAny_attempt (wpAny_callSpecial?_slot (name := Str.ofString "__next__") hT F.slot_enumerate_next
    (wpAny_call_entry F.slot_enumerate_next hT F.entry_enumerate_next ?_ (F.args_enumerate_next_1 _))))
  show wpAny _ _ (field (.ref e) 2 >>= _) _ _ _
  refine wpAny_bind (wpAny_field he rfl (x := .ref it) rfl ?_)
  refine wpAny_bind (wpAny_nextOf_tuple_end (show A.in1.handled = none from hh) hit ha (by simp; omega) fun h' x he' hx' => ?_)
  obtain ⟨o, ho, hc⟩ := hx'
  refine wpAny_bind (wpAny_isInstance (T := "StopIteration") (b := true) ⟨o, ho, hc⟩ isSubtype_stop ?_)
  exact wpAny_pure (hQ _ he')
theorem enum_end_list {e it a : Addr} {items : Array Value} {i : Nat} {c : Int} {old : Value} {Q : Option Value → Shared → Prop} (hh : A.handled = none) (he : IsEnum s.heap e it c old) (hit : s.heap.IsListIter it a i) (ha : s.heap.IsList a items) (hi : items.size ≤ i)
    (hQ : ∀ h', Heap.ExtBut it s.heap h' → Q none { s with heap := h' }) : wpAny (model prog w) A (pyNext (.ref e)) Q E s := by
  have hT : s.TypeIs (.ref e) "enumerate" := ⟨_, he, rfl⟩
  unfold pyNext
  refine wpAny_bind (wpAny_attempt (wpAny_callSpecial?_slot (name := Str.ofString "__next__") hT F.slot_enumerate_next
    (wpAny_call_entry F.slot_enumerate_next hT F.entry_enumerate_next ?_ (F.args_enumerate_next_1 _))))
  show wpAny _ _ (field (.ref e) 2 >>= _) _ _ _
  refine wpAny_bind (wpAny_field he rfl (x := .ref it) rfl ?_)
  refine wpAny_bind (wpAny_nextOf_list_end (show A.in1.handled = none from hh) hit ha (by simp; omega) fun h' x he' hx' => ?_)
  obtain ⟨o, ho, hc⟩ := hx'
  refine wpAny_bind (wpAny_isInstance (T := "StopIteration") (b := true) ⟨o, ho, hc⟩ isSubtype_stop ?_)
  exact wpAny_pure (hQ _ he')
end

/-- the list at a as it stands at each turn, each item in a new pair, counted from k -/
def IteL (K : PySem.W.Frag) (k : Int) (a : Addr) : It :=
  ⟨fun i H => ∃ (xs : List V) (x : V), SqL K H a xs ∧ xs[i]? = some x, fun i H v H' => ∃ T x, v = .ref T ∧ H T = none ∧ H' = upd H T (.tup [.int (k + (i : Nat)), x]) ∧ ∀ xs, SqL K H a xs → xs[i]? = some x, fun i H => ∃ xs : List V, SqL K H a xs ∧ xs.length ≤ i⟩
theorem turn_enumL {P : Program} {w : World} {K : PySem.W.Frag} {elts : List Expr} {kk : Nat} {tpos : Pos} (k : Int) (a e it : Addr) :
    Turn P w K (.Tuple elts kk tpos) (IteL K k a) [e, it] e (fun i h => (∃ old, IsEnum h e it (k + ((i : Nat) : Int)) old) ∧ h.IsListIter it a i ∧ e ≠ it) where
  mem := by simp
  obj := fun i h st b hb => by
    obtain ⟨⟨old, he⟩, ⟨o, ho, hc, hd⟩, _⟩ := st
    have e' : b = e ∨ b = it := by simpa using hb
    rcases e' with z | z
    · rw [z]; exact ⟨_, he, fun v q => nomatch q⟩
    · rw [z]; exact ⟨o, ho, fun v q => by rw [hd] at q; cases q⟩
  keep := fun i h h' st k => let ⟨⟨old, he⟩, hi, hne⟩ := st; ⟨⟨old, k e (by simp) _ he⟩, hi.at fun o q => k it (by simp) o q, hne⟩
  item := by
    intro X hP hw hK hc i pins s σ H E I hf st hg
    subst hP hw hK
    obtain ⟨⟨old, he⟩, hit, hne⟩ := st
    obtain ⟨xs, x, hq, hx⟩ := hg
    obtain ⟨its, rv, p, hz⟩ := I.list hq
    obtain ⟨u, hu, ru⟩ := rv.get hx
    have hel : e < s.heap.objs.size := Heap.lt_size he
    have hil : it < s.heap.objs.size := by obtain ⟨_, q, _⟩ := hit; exact Heap.lt_size q
    have pT : s.heap.IsList a its.toArray := p.isList
    have hae : e ≠ a := fun z => by
      obtain ⟨o1, h1, h2, _⟩ := pT
      rw [← z, he] at h1
      cases h1
      injection h2 with z2
      exact absurd z2 (by decide)
    have hai : a ≠ it := fun z => by
      obtain ⟨o1, h1, h2, _⟩ := pT
      obtain ⟨o2, h3, h4, _⟩ := hit
      rw [z, h3] at h1
      cases h1
      rw [h2] at h4
      injection h4 with z2
      exact absurd z2 (by decide)
    have D := Draws.list (prog := X.prog) (w := X.w) (A := X.A.in1) (show X.A.in1.handled = none from I.ok.hd hc) it a hai its.toArray
    refine wpAny_pyNext_enum_itemC (c := k + ((i : Nat) : Int)) D he ⟨hit, pT⟩ (by
      have := (List.getElem?_eq_some_iff.mp hu).1
      simpa using this) hne (by simp [hne, hae]) fun y h' tk hP ho hst' hT hsz hk => ?_
    have hy : y = u := by
      have hP : its.toArray[i]? = some y := hP
      rw [List.getElem?_toArray, hu] at hP
      exact (Option.some.inj hP).symm
    subst hy
    refine ⟨_, rfl, wpAny_letOwnedTupleGo_enum (s := { s with heap := h', toks := tk + 1 }) ho fun h'' he' sb => ?_⟩
    have hT2 : h''.get? s.heap.objs.size = some { cls := .type "tuple", data := .seq #[.int (k + ((i : Nat) : Int)) tk, y] } := (sb.2 _ (Nat.ne_of_gt hel)).trans hT
    have new : ObjOk X.prog X.w (upd H s.heap.objs.size (.tup [.int (k + (i : Nat)), x])) h'' s.heap.objs.size (.tup [.int (k + (i : Nat)), x]) :=
      ⟨by show 2 ≤ sizeLine; decide, [.int (k + ((i : Nat) : Int)) tk, y], .cons ⟨_, rfl⟩ (.cons ru .nil), ⟨_, hT2, rfl, _, rfl⟩⟩
    have I1 : Inv X pins σ (upd H s.heap.objs.size (.tup [.int (k + (i : Nat)), x])) { s with heap := h'', toks := tk + 1 } :=
      I.turnedNew (ch := [e, it]) (fun b ob hb q => (sb.2 b (fun z => hb (by simp [z]))).trans (hk b ob (fun z => hb (by simp [z])) (fun z => hb (by simp [z])) q)) hf (Nat.le_refl _) new
    refine ⟨.ref s.heap.objs.size, _, I1, rfl, ⟨_, x, rfl, I.hok.fresh (Nat.le_refl _), rfl, fun ys hy => by rw [I.list_inj hy hq]; exact hx⟩, ⟨⟨y, ?_⟩, hst'.1.at fun o q => (sb.2 it (Ne.symm hne)).trans q, hne⟩, fun b hb => ?_⟩
    · have e1 : k + ((i + 1 : Nat) : Int) = k + (i : Int) + 1 := by omega
      rw [e1]; exact he'
    · have hb' : b < s.heap.objs.size := by
        have e' : b = e ∨ b = it := by simpa using hb
        rcases e' with z | z
        · rw [z]; exact hel
        · rw [z]; exact hil
      rw [upd_ne (Nat.ne_of_lt hb')]
      exact (hf b hb).1
  done := by
    intro X hP hw hK hc i pins s σ H E I hf st hg
    subst hP hw hK
    obtain ⟨⟨old, he⟩, hit, hne⟩ := st
    obtain ⟨xs, hq, hx⟩ := hg
    obtain ⟨its, rv, p, hz⟩ := I.list hq
    obtain ⟨f0, f1, f2, f3, f4, f5⟩ := hf it (by simp)
    have hl := rv.length
    have pT : s.heap.IsList a its.toArray := p.isList
    have hT : s.TypeIs (.ref e) "enumerate" := ⟨_, he, rfl⟩
    exact enum_end_list (I.ok.hd hc) he hit pT (by simp; omega) fun h' eb => ⟨rfl, I.turned (t' := s.toks) (fun b o hb q => eb b o hb q) f0 f1 f3 f4 f5⟩
  self := fun A i s Q E st h => let ⟨⟨_, he⟩, _⟩ := st; wpAny_pyIter_enum he h

/-- the tuple at a as it stands at each turn, each item in a new pair, counted from k -/
def IteT (K : PySem.W.Frag) (k : Int) (a : Addr) : It :=
  ⟨fun i H => ∃ (xs : List V) (x : V), SqT K H a xs ∧ xs[i]? = some x, fun i H v H' => ∃ T x, v = .ref T ∧ H T = none ∧ H' = upd H T (.tup [.int (k + (i : Nat)), x]) ∧ ∀ xs, SqT K H a xs → xs[i]? = some x, fun i H => ∃ xs : List V, SqT K H a xs ∧ xs.length ≤ i⟩
theorem turn_enumT {P : Program} {w : World} {K : PySem.W.Frag} {elts : List Expr} {kk : Nat} {tpos : Pos} (k : Int) (a e it : Addr) :
    Turn P w K (.Tuple elts kk tpos) (IteT K k a) [e, it] e (fun i h => (∃ old, IsEnum h e it (k + ((i : Nat) : Int)) old) ∧ h.IsTupleIter it a i ∧ e ≠ it) where
  mem := by simp
  obj := fun i h st b hb => by
    obtain ⟨⟨old, he⟩, ⟨o, ho, hc, hd⟩, _⟩ := st
    have e' : b = e ∨ b = it := by simpa using hb
    rcases e' with z | z
    · rw [z]; exact ⟨_, he, fun v q => nomatch q⟩
    · rw [z]; exact ⟨o, ho, fun v q => by rw [hd] at q; cases q⟩
  keep := fun i h h' st k => let ⟨⟨old, he⟩, hi, hne⟩ := st; ⟨⟨old, k e (by simp) _ he⟩, hi.at fun o q => k it (by simp) o q, hne⟩
  item := by
    intro X hP hw hK hc i pins s σ H E I hf st hg
    subst hP hw hK
    obtain ⟨⟨old, he⟩, hit, hne⟩ := st
    obtain ⟨xs, x, hq, hx⟩ := hg
    obtain ⟨its, rv, p, hz⟩ := I.tuple hq
    obtain ⟨u, hu, ru⟩ := rv.get hx
    have hel : e < s.heap.objs.size := Heap.lt_size he
    have hil : it < s.heap.objs.size := by obtain ⟨_, q, _⟩ := hit; exact Heap.lt_size q
    have pT : s.heap.IsTuple a its.toArray := p
    have hae : e ≠ a := fun z => by
      obtain ⟨o1, h1, h2, _⟩ := pT
      rw [← z, he] at h1
      cases h1
      injection h2 with z2
      exact absurd z2 (by decide)
    have hai : a ≠ it := fun z => by
      obtain ⟨o1, h1, h2, _⟩ := pT
      obtain ⟨o2, h3, h4, _⟩ := hit
      rw [z, h3] at h1
      cases h1
      rw [h2] at h4
      injection h4 with z2
      exact absurd z2 (by decide)
    have D := Draws.tuple (prog := X.prog) (w := X.w) (A := X.A.in1) (show X.A.in1.handled = none from I.ok.hd hc) it a hai its.toArray
    refine wpAny_pyNext_enum_itemC (c := k + ((i : Nat) : Int)) D he ⟨hit, pT⟩ (by
      have := (List.getElem?_eq_some_iff.mp hu).1
      simpa using this) hne (by simp [hne, hae]) fun y h' tk hP ho hst' hT hsz hk => ?_
    have hy : y = u := by
      have hP : its.toArray[i]? = some y := hP
      rw [List.getElem?_toArray, hu] at hP
      exact (Option.some.inj hP).symm
    subst hy
    refine ⟨_, rfl, wpAny_letOwnedTupleGo_enum (s := { s with heap := h', toks := tk + 1 }) ho fun h'' he' sb => ?_⟩
    have hT2 : h''.get? s.heap.objs.size = some { cls := .type "tuple", data := .seq #[.int (k + ((i : Nat) : Int)) tk, y] } := (sb.2 _ (Nat.ne_of_gt hel)).trans hT
    have new : ObjOk X.prog X.w (upd H s.heap.objs.size (.tup [.int (k + (i : Nat)), x])) h'' s.heap.objs.size (.tup [.int (k + (i : Nat)), x]) :=
      ⟨by show 2 ≤ sizeLine; decide, [.int (k + ((i : Nat) : Int)) tk, y], .cons ⟨_, rfl⟩ (.cons ru .nil), ⟨_, hT2, rfl, _, rfl⟩⟩
    have I1 : Inv X pins σ (upd H s.heap.objs.size (.tup [.int (k + (i : Nat)), x])) { s with heap := h'', toks := tk + 1 } :=
      I.turnedNew (ch := [e, it]) (fun b ob hb q => (sb.2 b (fun z => hb (by simp [z]))).trans (hk b ob (fun z => hb (by simp [z])) (fun z => hb (by simp [z])) q)) hf (Nat.le_refl _) new
    refine ⟨.ref s.heap.objs.size, _, I1, rfl, ⟨_, x, rfl, I.hok.fresh (Nat.le_refl _), rfl, fun ys hy => by rw [I.tuple_inj hy hq]; exact hx⟩, ⟨⟨y, ?_⟩, hst'.1.at fun o q => (sb.2 it (Ne.symm hne)).trans q, hne⟩, fun b hb => ?_⟩
    · have e1 : k + ((i + 1 : Nat) : Int) = k + (i : Int) + 1 := by omega
      rw [e1]; exact he'
    · have hb' : b < s.heap.objs.size := by
        have e' : b = e ∨ b = it := by simpa using hb
        rcases e' with z | z
        · rw [z]; exact hel
        · rw [z]; exact hil
      rw [upd_ne (Nat.ne_of_lt hb')]
      exact (hf b hb).1
  done := by
    intro X hP hw hK hc i pins s σ H E I hf st hg
    subst hP hw hK
    obtain ⟨⟨old, he⟩, hit, hne⟩ := st
    obtain ⟨xs, hq, hx⟩ := hg
    obtain ⟨its, rv, p, hz⟩ := I.tuple hq
    obtain ⟨f0, f1, f2, f3, f4, f5⟩ := hf it (by simp)
    have hl := rv.length
    have pT : s.heap.IsTuple a its.toArray := p
    have hT : s.TypeIs (.ref e) "enumerate" := ⟨_, he, rfl⟩
    exact enum_end_tuple (I.ok.hd hc) he hit pT (by simp; omega) fun h' eb => ⟨rfl, I.turned (t' := s.toks) (fun b o hb q => eb b o hb q) f0 f1 f3 f4 f5⟩
  self := fun A i s Q E st h => let ⟨⟨_, he⟩, _⟩ := st; wpAny_pyIter_enum he h

def iEnumS (K : PySem.W.Frag) (k : Int) (te : TE) : TI := fun σ H Rr => te σ H fun x H1 => (-(2 ^ 63) ≤ k ∧ k < 2 ^ 63) ∧ ((∃ a, x = .ref a ∧ (∃ xs, SqL K H1 a xs) ∧ Rr (IteL K k a) H1) ∨ ∃ a, x = .ref a ∧ (∃ xs, SqT K H1 a xs) ∧ Rr (IteT K k a) H1)
def QEn (K : PySem.W.Frag) (k : Int) (Rr : It → Hp → Prop) : List V → Hp → Prop
  | [x], H1 => (-(2 ^ 63) ≤ k ∧ k < 2 ^ 63) ∧ ((∃ a, x = .ref a ∧ (∃ xs, SqL K H1 a xs) ∧ Rr (IteL K k a) H1) ∨ ∃ a, x = .ref a ∧ (∃ xs, SqT K H1 a xs) ∧ Rr (IteT K k a) H1)
  | _, _ => False
section
variable {X : Cx} {e : Expr} {te : TE} {p pos tpos kpos : Pos} {elts : List Expr} {kk j : Nat} {cp : Pos}
theorem enum_pie {pins : List (Addr × Obj)} {s1 : Shared} {σ : L2.St} {H1 : Hp} {Rr : It → Hp → Prop} {k : Int} {u : Value} {x : V} (I1 : Inv X pins σ H1 s1) (rx : RelV x u)
    (q : (∃ a, x = .ref a ∧ (∃ xs, SqL X.K H1 a xs) ∧ Rr (IteL X.K k a) H1) ∨ ∃ a, x = .ref a ∧ (∃ xs, SqT X.K H1 a xs) ∧ Rr (IteT X.K k a) H1)
    {G : (Value → Shared → Prop) → Prop}
    (hG : ∀ {o : Obj} {Hh : Heap → Prop} {Q : Value → Shared → Prop}, Begins u o Hh → Hh s1.heap →
      (∀ h', IsEnum h' (s1.heap.objs.size + 1) s1.heap.objs.size k .none → h'.get? s1.heap.objs.size = some o → h'.objs.size = s1.heap.objs.size + 2 → (∀ b o, s1.heap.get? b = some o → h'.get? b = some o) → Q (.ref (s1.heap.objs.size + 1)) { s1 with heap := h' }) → G Q) :
    G (fun v s2 => wpAny (model X.prog X.w) X.A (pyIter v) (PIE X pins σ (.Tuple elts kk tpos) Rr) X.xe s2) := by
  rcases q with ⟨a, rfl, ⟨xs, hq⟩, q⟩ | ⟨a, rfl, ⟨xs, hq⟩, q⟩
  · cases rx
    obtain ⟨its, rv, p', hz⟩ := I1.list hq
    refine hG (begins_list a its.toArray) p'.isList fun h' he hit hsz hk => wpAny_pyIter_enum he ?_
    have I2 : Inv X pins σ H1 { s1 with heap := h' } := I1.kept (t' := s1.toks) hk
    refine ⟨s1.heap.objs.size + 1, [s1.heap.objs.size + 1, s1.heap.objs.size], _, _, H1, rfl, I2, turn_enumL k a (s1.heap.objs.size + 1) s1.heap.objs.size, ⟨⟨.none, by simpa using he⟩, ⟨_, hit, rfl, rfl⟩, Nat.succ_ne_self _⟩, fun b hb => ?_, q⟩
    have e' : b = s1.heap.objs.size + 1 ∨ b = s1.heap.objs.size := by simpa using hb
    have hle : s1.heap.objs.size ≤ b := by
      rcases e' with z | z
      · rw [z]; exact Nat.le_add_right _ _
      · rw [z]; exact Nat.le_refl _
    exact I1.fpOk hle (I1.hok.fresh hle)
  · cases rx
    obtain ⟨its, rv, p', hz⟩ := I1.tuple hq
    refine hG (begins_tuple a its.toArray) p' fun h' he hit hsz hk => wpAny_pyIter_enum he ?_
    have I2 : Inv X pins σ H1 { s1 with heap := h' } := I1.kept (t' := s1.toks) hk
    refine ⟨s1.heap.objs.size + 1, [s1.heap.objs.size + 1, s1.heap.objs.size], _, _, H1, rfl, I2, turn_enumT k a (s1.heap.objs.size + 1) s1.heap.objs.size, ⟨⟨.none, by simpa using he⟩, ⟨_, hit, rfl, rfl⟩, Nat.succ_ne_self _⟩, fun b hb => ?_, q⟩
    have e' : b = s1.heap.objs.size + 1 ∨ b = s1.heap.objs.size := by simpa using hb
    have hle : s1.heap.objs.size ≤ b := by
      rcases e' with z | z
      · rw [z]; exact Nat.le_add_right _ _
      · rw [z]; exact Nat.le_refl _
    exact I1.fpOk hle (I1.hok.fresh hle)
theorem pi_enum0 (hg : Gl X "enumerate") (hm : X.mg "enumerate" = none) (he : PE X e te) (hs : starEach [e] X.env = [(false, eval e X.env)] := by rfl) :
    PI X (.Tuple elts kk tpos) (.Call (.Name "enumerate" p) [e] [] pos) (iEnumS X.K 0 te) := by
  refine ⟨fun pins s σ H Rr I h => ?_⟩
  refine Call_ (ld_blt I hg hm boot_enumerate (PyProof.Rows.callWith_type1 ?_ hs rfl))
  have hA := (pa_cons he pa_nil hs).run pos pins s σ H (QEn X.K 0 Rr) I h
  refine thn hA fun us s1 ⟨vs, H1, I1, r1, q⟩ => ?_
  cases r1 with
  | nil => exact False.elim q
  | cons r rr =>
    cases rr with
    | cons _ _ => exact False.elim q
    | nil => exact enum_pie (G := fun Q => wpAny (model X.prog X.w) X.A (call (.type "enumerate") [_]) Q X.xe s1) I1 r q.2 fun B hb hh => enum_begins1 B hb hh
theorem pi_enumSK {k : Int} {jj : Nat} (hg : Gl X "enumerate") (hm : X.mg "enumerate" = none) (he : PE X e te) (hs : starEach [e] X.env = [(false, eval e X.env)] := by rfl) :
    PI X (.Tuple elts kk tpos) (.Call (.Name "enumerate" p) [e] [⟨some (Str.ofString "start"), .Constant (.int k) jj cp, kpos⟩] pos) (iEnumS X.K k te) := by
  refine ⟨fun pins s σ H Rr I h => ?_⟩
  refine wpAny_Call_Name_kw (ld_blt I hg hm boot_enumerate ?_)
  have hA := (pa_cons he pa_nil hs).run pos pins s σ H (QEn X.K k Rr) I h
  refine PySem.W.callWith_of (P := X.K.In) (by rw [hs]; rfl) (fun _ _ => ⟨_, .inr (.inl rfl), PySem.W.Looks.of_pure (by rfl)⟩) (PyProof.Rows.evalArgs_kw2 (by rfl) (thn hA fun us s1 ⟨vs, H1, I1, r1, q⟩ => ?_) hs)
  have hB := (pk_cons (X := X) (nm := some (Str.ofString "start")) (kpos := kpos) (pe_int (i := k) (j := jj) (pos := cp)) pk_nil).run pos pins s1 σ H1 (fun zs H2 => zs = [.int k] ∧ H2 = H1) I1 ⟨rfl, rfl⟩
  refine thn hB fun ws s2 ⟨zs, H2, I2, rz, ez, eH⟩ => ⟨I2.kIn, ?_⟩
  subst ez eH
  cases rz with
  | cons rz rzz =>
    cases rzz
    obtain ⟨t, rfl⟩ := rz
    cases r1 with
    | nil => exact False.elim q
    | cons r rr =>
      cases rr with
      | cons _ _ => exact False.elim q
      | nil => exact enum_pie (G := fun Q => wpAny (model X.prog X.w) X.A (call (.type "enumerate") [_] [(Str.ofString "start", .int k t)]) Q X.xe s2) I2 r q.2 fun B hb hh => enum_begins_start B hb q.1.1 q.1.2 hh
end

section
variable {P : Program} {w : World} {K : PySem.W.Frag} {W : WX} {δ : Dv}
/-- the pairs that enumerate gives -/
def numD (k : Int) (ds : List D) : List D := (upTo k ds.length).zipWith (fun i d => .tup [i, d]) ds
theorem numD_len {k : Int} {ds : List D} : (numD k ds).length = ds.length := by
  unfold numD upTo
  simp
theorem numD_get {k : Int} {ds : List D} {i : Nat} {d : D} (h : ds[i]? = some d) : (numD k ds)[i]? = some (.tup [.int (k + (i : Nat)), d]) := by
  have hi := (List.getElem?_eq_some_iff.mp h).1
  unfold numD upTo
  rw [List.getElem?_zipWith]
  simp [h, hi]
  exact (List.getElem?_eq_some_iff.mp h).2
def enumOf : D → Option (List D)
  | .lst xs => some xs
  | .tup xs => some xs
  | .sq ns => some (ns.map .int)
  | _ => none
def iEnumL (k : Int) (r : Rs D) : Rs (List D) := r.bind fun d => ofO ((enumOf d).bind fun ds => if -(2 ^ 63) ≤ k ∧ k < 2 ^ 63 then some (numD k ds) else none)
theorem yd_num {xs : List V} {ds : List D} {Hx : Hp} {k : Int} {Y : Nat → Hp → V → Hp → Prop} (r : RA K Hx xs ds) (hy : ∀ i Hq v Hq' Hy, Ex Hx Hy → Ex Hy Hq → i < ds.length → Y i Hq v Hq' → ∃ Tt x, v = .ref Tt ∧ Hq Tt = none ∧ Hq' = upd Hq Tt (.tup [.int (k + (i : Nat)), x]) ∧ xs[i]? = some x) : Yd K Y Hx (numD k ds) := by
  intro i Hq v Hq' Hy hi e1 e2 y
  rw [numD_len] at hi
  obtain ⟨Tt, x, rfl, hT, rfl, hx⟩ := hy i Hq v Hq' Hy e1 e2 hi y
  obtain ⟨d, h1, h2⟩ := r.getV hx
  have g : Gw Hy Hq (upd Hy Tt (.tup [.int (k + (i : Nat)), x])) (upd Hq Tt (.tup [.int (k + (i : Nat)), x])) := Gw.new e2 hT
  exact ⟨_, _, numD_get h1, g, .tup (SqT.of upd_same) (.cons (.int _) (.cons ((h2.mono e1).mono g.1) .nil))⟩
def YEnL (K : PySem.W.Frag) (k : Int) (a : Addr) : Nat → Hp → V → Hp → Prop := (IteL K k a).yld
def YEnT (K : PySem.W.Frag) (k : Int) (a : Addr) : Nat → Hp → V → Hp → Prop := (IteT K k a).yld
theorem walk_enL {k : Int} {a : Addr} {xs : List V} : Walk (IteL K k a) xs.length (fun H => SqL K H a xs) (YEnL K k a) where
  goes := fun i H hi h => ⟨xs, xs[i], h, by simp [hi]⟩
  stops := fun H h => ⟨xs, h, Nat.le_refl _⟩
  yields := fun i H x H' hi h y => y
theorem walk_enT {k : Int} {a : Addr} {xs : List V} : Walk (IteT K k a) xs.length (fun H => SqT K H a xs) (YEnT K k a) where
  goes := fun i H hi h => ⟨xs, xs[i], h, by simp [hi]⟩
  stops := fun H h => ⟨xs, h, Nat.le_refl _⟩
  yields := fun i H x H' hi h y => y
theorem ev_enumS {k : Int} {te : TE} {r : Rs D} (h : EvD K W te δ r) : EvI K W (iEnumS K k te) δ (iEnumL k r) := by
  intro Hx H σ env Rr p
  refine h Hx H σ env _ (p.seq ?_)
  rintro x H1 ⟨Hx1, d, g, rv, p⟩
  obtain ⟨ds, hd, p2⟩ := p.ofO
  clear p
  have e := g.2.2.1
  cases ho : enumOf d with
  | none =>
    rw [ho] at hd
    cases hd
  | some es =>
    rw [ho] at hd
    have hd : (if -(2 ^ 63) ≤ k ∧ k < 2 ^ 63 then some (numD k es) else none) = some ds := hd
    split at hd
    · rename_i hk
      cases hd
      refine ⟨hk, ?_⟩
      cases rv with
      | lst h1 h2 =>
        cases ho
        exact .inl ⟨_, rfl, ⟨_, SqL.of (e _ _ h1)⟩, p2 _ _ _ Hx1 H1 (.refl e) (numD_len ▸ h2.length ▸ walk_enL) (fun H2 e2 => SqL.of (e2 _ _ h1)) (yd_num h2 fun i Hq v Hq' Hy e1 e2 _ ⟨Tt, x, q1, q2, q3, q4⟩ => ⟨Tt, x, q1, q2, q3, q4 _ (SqL.of (e2 _ _ (e1 _ _ h1)))⟩)⟩
      | tup h1 h2 =>
        cases ho
        exact .inr ⟨_, rfl, ⟨_, ex_t e h1⟩, p2 _ _ _ Hx1 H1 (.refl e) (numD_len ▸ h2.length ▸ walk_enT) (fun H2 e2 => ex_t e2 h1) (yd_num h2 fun i Hq v Hq' Hy e1 e2 _ ⟨Tt, x, q1, q2, q3, q4⟩ => ⟨Tt, x, q1, q2, q3, q4 _ (ex_t (e1.trans e2) h1)⟩)⟩
      | sq h1 =>
        cases ho
        refine .inl ⟨_, rfl, ⟨_, ex_l e h1⟩, p2 _ _ _ Hx1 H1 (.refl e) (numD_len ▸ (RA.ofInts (K := K) (H := Hx1) _).length ▸ walk_enL) (fun H2 e2 => ex_l e2 h1) (yd_num (.ofInts _) fun i Hq v Hq' Hy e1 e2 _ ⟨Tt, x, q1, q2, q3, q4⟩ => ⟨Tt, x, q1, q2, q3, q4 _ (ex_l (e1.trans e2) h1)⟩)⟩
      | _ => cases ho
    · cases hd
/-! ### own ==, own len -/
def rEqI (C : Addr) (sp : Sp) (E : XK) : R2 := fun x y H Q => ∃ a b dx dy fs gs, x = .ref a ∧ y = .ref b ∧ H a = some (.ins C dx fs) ∧ H b = some (.ins C dy gs) ∧ sp [x, y] H (fun v H' => ∃ k, v = .bl k ∧ Q (.bl k) H') E
theorem op_eqI {X : Cx} {C : Addr} {k j : Nat} {ps : List Str} {sp : Sp} {E : XK} (h : HasM X.prog X.w X.K X.mg X.base k C "__eq__" ps sp) (hr : Room j X.A) (hx : Passes (L2.CX X.prog X.w) X E) (hj : k ≤ j := by decide) : OpR X (compareOp .Eq) (rEqI C sp E) := by
  obtain ⟨f, fd, hM, hb, F⟩ := h
  intro pins s σ H x y v u Q I rx ry hq
  obtain ⟨a, b, dx, dy, fs, gs, rfl, rfl, ha, hb', hsp⟩ := hq
  show wpAny (model X.prog X.w) X.A (richCompare .Eq v u) (EP X pins σ Q) X.xe s
  cases rx
  cases ry
  obtain ⟨mA, J, _⟩ := ins_get I.hok ha
  obtain ⟨mB, J', _⟩ := ins_get I.hok hb'
  obtain ⟨od, J, _⟩ := J.look
  obtain ⟨od', J', _⟩ := J'.look
  obtain ⟨m, hF⟩ := I.fr
  refine PySem.W.cmp_K (op := .Eq) (tb := .ref C) (by have := hr.units; omega) hF I.ok.mod.kin J J'.type (by simp [PySem.W.notFirst]) hM.at_ hM.fn ?_
  have hl := F.len _ _ _ _ hsp
  have r2 : Vals [V.ref a, V.ref b] [Value.ref a, Value.ref b] := .cons rfl (.cons rfl .nil)
  refine wpAny_call (codeAny_mono (F.run X.A X.stack s H ⟨[.ref a, .ref b], []⟩ [.ref a, .ref b] [.ref a, .ref b] _ E (hr.mono hj) I.env0 (by
    have := hb s [.ref a, .ref b] I.kIn (by simpa using hl)
    simpa using this) r2 hsp) fun r s' hq => ?_)
  cases r with
  | error e => exact hx pins σ H s e s' I hq
  | ok fl =>
    cases fl with
    | ret w =>
      obtain ⟨z, H', I', rz, kk, ez, q⟩ := I.after hq
      subst ez
      cases rz
      exact ⟨.bl kk, H', I', rfl, q⟩
    | next => exact False.elim hq
    | brk => exact False.elim hq
    | cont => exact False.elim hq
def toBl : D → Rs D
  | .bl b => .ok (.bl b)
  | _ => .bad
def eEqI (C : Addr) (f : List D → Rs D) (a b : Rs D) : Rs D := a.bind fun x => b.bind fun y => match x, y with
  | .ins C1 g1, .ins C2 g2 => if C1 = C ∧ C2 = C then (f [.ins C1 g1, .ins C2 g2]).bind toBl else .bad
  | _, _ => .bad
theorem ev_eqI {C : Addr} {E : XK} {f : List D → Rs D} {ta tb : TE} {a b : Rs D} (h1 : EvD K (WOf E) ta δ a) (h2 : EvD K (WOf E) tb δ b) : EvD K (WOf E) (tOp (rEqI C (spD K f) E) ta tb) δ (eEqI C f a b) := by
  intro Hx H σ env Q p
  refine h1 Hx H σ env _ (p.seq ?_)
  rintro x H1 ⟨Hx1, d, g, rx, p1⟩
  refine h2 Hx1 H1 σ (env.gw g) _ (p1.seq ?_)
  rintro y H2 ⟨Hx2, e, g2, ry, p2⟩
  cases rx with
  | @ins a1 C1 dx fs1 gs1 q1 q2 =>
    cases ry with
    | @ins a2 C2 dy fs2 gs2 r1 r2 =>
      have pp : Pst (RelD K) K (WOf E) σ Hx2 H2 Q (if C1 = C ∧ C2 = C then (f [.ins C1 gs1, .ins C2 gs2]).bind toBl else .bad) := p2
      clear p2
      split at pp
      · rename_i hc
        obtain ⟨e1, e2⟩ := hc
        subst e1 e2
        refine ⟨a1, a2, dx, dy, fs1, fs2, rfl, rfl, g2.2.2.1 _ _ (g2.1 _ _ q1), g2.2.2.1 _ _ r1, Hx2, [.ins _ gs1, .ins _ gs2], g2.2.2.1, .cons (.ins (g2.1 _ _ q1) (q2.mono g2.1)) (.one (.ins r1 r2)), ?_⟩
        cases hf : f [.ins C2 gs1, .ins C2 gs2] with
        | ok d =>
          rw [hf] at pp
          intro v Hx' H' g' rv
          cases d with
          | bl k =>
            cases rv
            exact ⟨k, rfl, pp (.bl k) Hx' H' g' (.bl k)⟩
          | _ => exact pp.elim
        | exc e =>
          rw [hf] at pp
          exact pp
        | bad =>
          rw [hf] at pp
          exact pp.elim
      · exact pp.elim
    | _ => exact p2.elim
  | _ => exact p2.elim
theorem ev_eqI0 {C : Addr} {f : List D → Rs D} {ta tb : TE} {a b : Rs D} (h1 : EvD K W0 ta δ a) (h2 : EvD K W0 tb δ b) : EvD K W0 (tOp (rEqI C (spD K f) E0) ta tb) δ (eEqI C f a b) := ev_eqI (E := E0) h1 h2
def rLenI (C : Addr) (sp : Sp) (E : XK) : List V → Hp → VK → Prop := fun xs H Q => ∃ a dx fs, xs = [.ref a] ∧ H a = some (.ins C dx fs) ∧ sp [.ref a] H (fun v H' => ∃ n : Int, v = .int n ∧ (0 ≤ n ∧ n < 2 ^ 63) ∧ Q (.int n) H') E
theorem call_lenI {X : Cx} {C : Addr} {k j : Nat} {ps : List Str} {sp : Sp} {E : XK} (h : HasM X.prog X.w X.K X.mg X.base k C "__len__" ps sp) (hr : Room j X.A) (hx : Passes (L2.CX X.prog X.w) X E) (hj : k + 1 ≤ j := by decide) : CallR X (.builtin "len") (rLenI C sp E) := by
  obtain ⟨f, fd, hM, hb, F⟩ := h
  intro pins s σ H xs us Q I rs hq
  obtain ⟨a, dx, fs, rfl, ha, hsp⟩ := hq
  cases rs with
  | cons r rr =>
    cases rr
    cases r
    obtain ⟨mA, J, _⟩ := ins_get I.hok ha
    obtain ⟨od, J, _⟩ := J.look
    obtain ⟨m, hF⟩ := I.fr
    refine PySem.W.len_K hF I.ok.mod.kin J hM.at_ hM.fn ?_
    have hl := F.len _ _ _ _ hsp
    have r2 : Vals [V.ref a] [Value.ref a] := .cons rfl .nil
    have e0 : Env0 X.prog X.w X.K X.mg X.base X.A.in1 X.stack s H := by
      have e := I.env0
      exact ⟨e.frames, e.mod, e.bs, e.bsz, e.funs, e.frf, e.hok, e.bare⟩
    refine wpAny_call (codeAny_mono (F.run X.A.in1 X.stack s H ⟨[.ref a], []⟩ [.ref a] [.ref a] _ E (hr.mono hj).in1 e0 (by
      have := hb s [.ref a] I.kIn (by simpa using hl)
      simpa using this) r2 hsp) fun r s' hq => ?_)
    cases r with
    | error e => exact hx pins σ H s e s' I hq
    | ok fl =>
      cases fl with
      | ret w =>
        obtain ⟨z, H', I', rz, n, ez, hn, q⟩ := I.after hq
        subst ez
        obtain ⟨t, rfl⟩ := rz
        exact ⟨hn, .int n, H', I'.tok _, ⟨_, rfl⟩, q⟩
      | next => exact False.elim hq
      | brk => exact False.elim hq
      | cont => exact False.elim hq
def toLen : D → Rs D
  | .int n => if 0 ≤ n ∧ n < 2 ^ 63 then .ok (.int n) else .bad
  | _ => .bad
def eLenI (C : Addr) (f : List D → Rs D) (as : Rs (List D)) : Rs D := as.bind fun xs => match xs with
  | [.ins C1 g1] => if C1 = C then (f [.ins C1 g1]).bind toLen else .bad
  | _ => .bad
theorem ev_lenI {C : Addr} {E : XK} {f : List D → Rs D} {ta : TA} {as : Rs (List D)} (h1 : EvA K (WOf E) ta δ as) : EvD K (WOf E) (tCB (rLenI C (spD K f) E) ta) δ (eLenI C f as) := by
  intro Hx H σ env Q p
  refine h1 Hx H σ env _ (p.seq ?_)
  rintro xs H1 ⟨Hx1, ds, g, rxs, p1⟩
  cases rxs with
  | nil => exact p1.elim
  | cons rx rs =>
    cases rs with
    | cons _ _ => 
      cases rx <;> exact p1.elim
    | nil =>
      cases rx with
      | @ins a1 C1 dx fs1 gs1 q1 q2 =>
        have pp : Pst (RelD K) K (WOf E) σ Hx1 H1 Q (if C1 = C then (f [.ins C1 gs1]).bind toLen else .bad) := p1
        clear p1
        split at pp
        · rename_i e1
          subst e1
          refine ⟨a1, dx, fs1, rfl, g.2.2.1 _ _ q1, Hx1, [.ins C1 gs1], g.2.2.1, .one (.ins q1 q2), ?_⟩
          cases hf : f [.ins C1 gs1] with
          | ok d =>
            rw [hf] at pp
            intro v Hx' H' g' rv
            cases d with
            | int n =>
              have pp : Pst (RelD K) K (WOf E) σ Hx1 H1 Q (if 0 ≤ n ∧ n < 2 ^ 63 then .ok (.int n) else .bad) := pp
              split at pp
              · rename_i hn
                cases rv
                exact ⟨n, rfl, hn, pp (.int n) Hx' H' g' (.int n)⟩
              · exact pp.elim
            | _ => exact pp.elim
          | exc e =>
            rw [hf] at pp
            exact pp
          | bad =>
            rw [hf] at pp
            exact pp.elim
        · exact pp.elim
      | _ => exact p1.elim
theorem pe_prp {X : Cx} {C : Addr} {k j : Nat} {ps : List Str} {m : Str} {sp : Sp} {E : XK} {e : Expr} {ta : TE} {pos : Pos} (h : HasP X.prog X.w X.K X.mg X.base k C m ps sp) (c : Cls X.K C) (hr : Room j X.A) (hx : Passes (L2.CX X.prog X.w) X.nox E) (he : PE X e ta) (hj : k + 1 ≤ j)
    (hab : attributeBase e m X.env (eval e X.env) = eval e X.env) : PE X (.Attribute e m pos) (tProp C sp [] E ta) := by
  obtain ⟨p, f, fd, h1, h2, h3⟩ := h
  exact pe_prop he c h1 h3 (hr.mono hj) h2 .nil hx hab
/-! ### xs + ys as a new list of the def's own -/
def nAdd (a b : Rs D) : Rs NO := a.bind fun x => b.bind fun y => match x, y with
  | .lst xs, .lst ys => if xs.length + ys.length ≤ sizeLine then .ok (.lst (xs ++ ys)) else .bad
  | _, _ => .bad
theorem ev_addN {ta tb : TE} {a b : Rs D} (h1 : EvD K W ta δ a) (h2 : EvD K W tb δ b) : EvN P w K W (tOp (rAdd4 K) ta tb) δ (nAdd a b) := by
  intro Hx H σ env Q p
  refine h1 Hx H σ env _ (p.seq ?_)
  rintro x H1 ⟨Hx1, d, g, rx, p1⟩
  refine h2 Hx1 H1 σ (env.gw g) _ (p1.seq ?_)
  rintro y H2 ⟨Hx2, e, g2, ry, p2⟩
  cases rx with
  | @lst a1 xs ds q1 q2 =>
    cases ry with
    | @lst a2 ys es r1 r2 =>
      have pp : PsN P w K W σ Hx2 H2 Q (if ds.length + es.length ≤ sizeLine then .ok (.lst (ds ++ es)) else .bad) := p2
      clear p2
      split at pp
      · rename_i hl
        refine .inr (.inr (.inl ⟨_, _, _, _, rfl, rfl, g2.2.2.1 _ _ (g2.1 _ _ q1), g2.2.2.1 _ _ r1, by rw [q2.length, r2.length]; exact hl, ?_⟩))
        exact laid g2.2.2.1 ((q2.mono g2.1).append r2) pp
      · exact pp.elim
    | _ => exact p2.elim
  | _ => exact p2.elim
/-- readings of text methods -/
def r_split (_ : PySem.W.Frag) : V → List V → Hp → VK → Prop := fun x xs H Q => ∃ a b, x = .str a ∧ xs = [.str b] ∧ (b.length == 0) = false ∧ a.length + 2 ≤ sizeLine ∧ rNewStrs (Txt.split a b) H Q
def r_join (K : PySem.W.Frag) : V → List V → Hp → VK → Prop := fun x xs H Q => ∃ a p, ∃ ys : List Str, x = .str a ∧ xs = [.ref p] ∧ (SqL K H p (ys.map V.str) ∨ SqT K H p (ys.map V.str)) ∧ (ys.map (·.length)).sum + ys.length * a.length ≤ 16777216 ∧ Q (.str (Txt.join a ys)) H
def r_startswith (_ : PySem.W.Frag) : V → List V → Hp → VK → Prop := fun x xs H Q => ∃ a b, x = .str a ∧ xs = [.str b] ∧ Q (.bl (Txt.startswith a b)) H
def r_endswith (_ : PySem.W.Frag) : V → List V → Hp → VK → Prop := fun x xs H Q => ∃ a b, x = .str a ∧ xs = [.str b] ∧ Q (.bl (Txt.endswith a b)) H
def r_upper (_ : PySem.W.Frag) : V → List V → Hp → VK → Prop := fun x xs H Q => ∃ a, x = .str a ∧ xs = [] ∧ a.length ≤ 5592405 ∧ Q (.str (Txt.upper a)) H
theorem ev_make0 {C : Addr} {f : List D → Rs (List (Str × D))} {ta : TA} {as : Rs (List D)} (h : EvA K W0 ta δ as) : EvD K W0 (tMake C (spI K C f) [] E0 ta) δ (eMake C f as) := ev_make (E := E0) h
end
end DL
set_option Elab.async false
set_option linter.all false
set_option maxRecDepth 100000
set_option maxHeartbeats 4000000
/-! The data layer, 12: try .. except X as e. -/
namespace DL
open PySem PySem.Spec PyProof.Rows L2
open Evl (Ex ex_l ex_t fresh_back)
set_option autoImplicit false
/-! ### isinstance(e, C), e the error that a suite holds, with its own dict or without -/
section
variable {prog : Program} {w : World} {A : Around} {E : Value → Shared → Prop} {s : Shared} {K : PySem.W.Frag} {x D : Addr} {ox : Obj} {od : Option Obj}
theorem find_class {D : Addr} {od : Option Obj} (C : ExcC K D) : PySem.W.findObj K D od "__class__" = some (.bind (.builtin "getset_descriptor.__get__") (.builtin "object.__class__")) := by
  obtain ⟨cd, hc, _⟩ := PySem.W.any_some C.hd
  have hcs : (PySem.W.clsIn K D).isSome = true := by rw [hc]; rfl
  cases od with
  | none => exact PySem.W.findObj_dataN hcs C.ha C.hn C.ht
  | some o => exact PySem.W.findObj_data hcs C.ha C.hn C.ht
open PySem.W PySem.Calls in
theorem kin_classX {Q : Option Value → Shared → Prop} (C : ExcC K D) (X : K.In s.heap) (I : InstAt s.heap x ox D od) (h : Q (some (.ref D)) { s with toks := s.toks + 1 }) : wpAny (model prog w) A (getAttr? (.ref x) "__class__") Q E s := by
  have hf := find_class (od := od) C
  obtain ⟨hp, g, d, t, os⟩ := s
  have L0 := I.type (M := model prog w)
  have L1 := looks_findIn (M := model prog w) X C.hg
  have L2 := looks_findIn (M := model prog w) X C.hk
  have L3 := looks_find (M := model prog w) X I hf
  have sub : Looks (model prog w) hp (isInstance (.ref x) (.type "BaseException")) true := L0.andThen (looks_subIn X C.hs)
  have e0 : (false && onTheHeap (Value.builtin "BaseException.__getattribute__")) = false := rfl
  have e2 : (Value.builtin "BaseException.__getattribute__" == Value.builtin "object.__getattribute__") = false := by decide +kernel
  have e1 : (onTheHeap (Value.ref D) && Value.builtin "BaseException.__getattribute__" == Value.builtin "object.__getattribute__") = false := by rw [e2]; rfl
  unfold getAttr? getAttrBy? getAttrBy
  refine wpAny_bind (wpAny_mkText (wpAny_bind (wpAny_attempt (wpAny_holding (wpAny_bind (L0.at (wpAny_bind (L1.at ?_))))))))
  show wpAny _ _ (if (onTheHeap (Value.ref D) && Value.builtin "BaseException.__getattribute__" == Value.builtin "object.__getattribute__") = true then _ else _) _ _ _
  rw [e1, if_neg Bool.false_ne_true]
  unfold getAttrByItsOwn hookBefore
  refine wpAny_bind ?_
  rw [if_pos (show onTheHeap (Value.ref D) = true from rfl)]
  refine L2.at (wpAny_bind (wpAny_attempt (wpAny_holding ?_)))
  unfold callGetattribute
  rw [e0, if_neg Bool.false_ne_true]
  unfold boundAndCalled
  rw [PySem.F.excAttr_ValueError.ga.bind (.ref x)]
  refine wpAny_bind (wpAny_pure ?_)
  show wpAny _ _ (call (.builtin "BaseException.__getattribute__") [.ref x, .str "__class__" t]) _ _ _
  refine wpAny_call (codeAny_call_builtin PySem.F.excAttr_ValueError.ga.plain PySem.F.entry_bexc_ga ?_)
  refine @check_slot (model prog w) _ _ ⟨hp, g, d, t + 1, os⟩ "BaseException.__getattribute__" "BaseException" "__getattribute__" (.ref x) [.str "__class__" t] [] _ (by decide +kernel) (by decide +kernel) sub (PySem.F.args_bexc_ga (.ref x) (.str "__class__" t)) ?_
  unfold Builtin.«object.__getattribute__»
  refine wpAny_bind (wpAny_of_eq (a := ((Value.ref x : Value), [Value.str "__class__" t])) (by first | rfl | (simp only [slotArgs]; rfl)) ?_)
  refine wpAny_bind (wpAny_pure (wpAny_bind (L0.at (wpAny_bind (L3.at ?_)))))
  show wpAny _ _ (holding [Value.builtin "object.__class__"] (call (.builtin "getset_descriptor.__get__") [.builtin "object.__class__", .ref x, .ref D]) >>= ret) _ _ _
  refine wpAny_bind (wpAny_holding (wpAny_call (class_get (s := ⟨hp, g, d, t + 1, os⟩) (ox := ox) (od := od) X I C.hm ?_)))
  refine wpAny_pure ?_
  show wpAny _ _ (handedOut (.ref D)) _ _ _
  rw [handedOut_of (v := .ref D) rfl]
  first
    | exact wpAny_pure (wpAny_pure h)
    | exact wpAny_pure h
    | exact wpAny_pure (wpAny_bind (wpAny_pure (wpAny_pure h)))
theorem kitx_X (C : ExcC K D) : PySem.W.KitX K (.ref x) (.ref D) (fun h => PySem.W.InstAt h x ox D od) where
  ty := fun _ _ _ I => I.type
  it := (PySem.W.handS_kitx_exc (x := x) (ox := ox) C.hg C.hk C.hs C.hd C.ha C.hn C.ht C.hm).it |> fun f => by
    intro h M X I
    obtain ⟨cdD, hcD, _⟩ := PySem.W.any_some C.hd
    unfold PySem.W.clsIn at hcD
    split at hcD
    · rename_i c' d' cd' sl' ho
      intro A' Q' E' s' k q
      unfold isType loadHead
      exact wpAny_bind (wpAny_loadPart (k _ _ (X _ _ ho)) (wpAny_pure q))
    · cases hcD
  ne := (PySem.W.handS_kitx_exc (x := x) (ox := ox) C.hg C.hk C.hs C.hd C.ha C.hn C.ht C.hm).ne
  ca := fun X I k => kin_classX C X I k
end
def rIsX (K : PySem.W.Frag) (D a : Addr) (d : Option Addr) : List V → Hp → VK → Prop := fun xs H Q => ∃ (c : V) (cv : Value) (b : Bool), xs = [.ref a, c] ∧ (d = none ∨ ∃ dd fs, d = some dd ∧ H dd = some (.xd fs)) ∧ (∀ u, RelV c u → u = cv) ∧ PySem.W.kitOne K (.ref D) cv = some b ∧ Q (.bl b) H
theorem call_isX {X : Cx} {a D : Addr} {oe : Obj} {d : Option Addr} {pn : List (Addr × Obj)} (C : ExcC X.K D) (hz : Zc (.ref D) d oe) (hf : ∃ vs, oe.data = .fields vs) : CallR (X.suite a ((a, oe) :: pn)) (.builtin "isinstance") (rIsX X.K D a d) := by
  intro pins s σ H xs us Q I r h
  obtain ⟨c, cv, b, rfl, hd, hcv, e, q⟩ := h
  cases r with
  | cons rx rr =>
    cases rr with
    | cons rt rr =>
      cases rr
      cases rx
      have ec := hcv _ rt
      subst ec
      obtain ⟨hget, _⟩ := I.pin (a, oe) (List.mem_append.mpr (.inl List.mem_cons_self))
      obtain ⟨vs, hv⟩ := hf
      have J : ∃ od, PySem.W.InstAt s.heap a oe D od := by
        obtain ⟨oc, odd, oda, osl⟩ := oe
        obtain ⟨h1, h2⟩ := hz
        dsimp only at h1 h2 hv
        subst h1 h2 hv
        rcases hd with hd | ⟨dd, fs, hd, hx⟩
        · subst hd
          exact ⟨none, hget, rfl, rfl, trivial⟩
        · subst hd
          obtain ⟨mA, hns, _⟩ := I.hok dd _ hx
          obtain ⟨o2, ho2, _⟩ := lookIn_ns hns
          exact ⟨some o2, hget, rfl, rfl, ho2⟩
      obtain ⟨od, J⟩ := J
      exact PySem.W.kia_one (kitx_X C) I.kIn J e (fun z => nomatch z) fun tk => ⟨.bl b, H, I.kept (t' := tk) fun _ _ z => z, rfl, q⟩
/-- .. the class of the error left open -/
def rIsC (K : PySem.W.Frag) (a : Addr) (cls : Value) (d : Option Addr) : List V → Hp → VK → Prop := fun xs H Q => ∃ D, cls = .ref D ∧ ExcC K D ∧ rIsX K D a d xs H Q
theorem call_isC {X : Cx} {a : Addr} {cls : Value} {oe : Obj} {d : Option Addr} {pn : List (Addr × Obj)} (hz : Zc cls d oe) (hf : ∃ vs, oe.data = .fields vs) : CallR (X.suite a ((a, oe) :: pn)) (.builtin "isinstance") (rIsC X.K a cls d) := by
  intro pins s σ H xs us Q I r h
  obtain ⟨D, rfl, C, h⟩ := h
  exact call_isX C hz hf pins s σ H xs us Q I r h
section
variable {P : Program} {w : World} {K : PySem.W.Frag} {W : WX} {δ : Dv}
def xIs (a : Addr) (d : Option Addr) (b : Bool) : D → Option D
  | .exn a' d' _ => if a' = a ∧ d' = d then some (.bl b) else none
  | _ => none
theorem ev_isx {D0 a : Addr} {cls : Value} {d : Option Addr} {b : Bool} {u : Value} {c : V} {te : TE} {r : Rs D} (hc : cls = .ref D0) (C : ExcC K D0) (hcv : ∀ u', RelV c u' → u' = u) (hk : PySem.W.kitOne K (.ref D0) u = some b) (h : EvD K W te δ r) :
    EvD K W (tCB (rIsC K a cls d) (tCons te (tCons (tC c) tNil))) δ (e1 (xIs a d b) r) := by
  intro Hx H σ env Q p
  refine h Hx H σ env _ (p.seq ?_)
  rintro x H1 ⟨Hx1, dv, g, rx, p1⟩
  obtain ⟨z, hz, p0⟩ := p1.ofO
  clear p1
  cases rx with
  | exn0 a' =>
    have hz2 : (if a' = a ∧ none = d then some (D.bl b) else none) = some z := hz
    clear hz
    split at hz2
    · rename_i hh
      obtain ⟨e1, e2⟩ := hh
      subst e1 e2
      cases hz2
      exact ⟨D0, hc, C, c, u, b, rfl, .inl rfl, hcv, hk, p0 _ _ _ (.refl g.2.2.1) (.bl b)⟩
    · cases hz2
  | @exn1 a' d' fs gs h1 h2 =>
    have hz2 : (if a' = a ∧ some d' = d then some (D.bl b) else none) = some z := hz
    clear hz
    split at hz2
    · rename_i hh
      obtain ⟨e1, e2⟩ := hh
      subst e1 e2
      cases hz2
      exact ⟨D0, hc, C, c, u, b, rfl, .inr ⟨d', fs, rfl, g.2.2.1 _ _ h1⟩, hcv, hk, p0 _ _ _ (.refl g.2.2.1) (.bl b)⟩
    · cases hz2
  | _ => cases hz
def xFld (a : Addr) (d : Option Addr) (f : Str) : D → Option D
  | .exn a' d' fs => if a' = a ∧ d' = d then fs.lookup f else none
  | _ => none
theorem ev_xfld {C a : Addr} {cls : Value} {d : Option Addr} {f : Str} {te : TE} {r : Rs D} (hc : cls = .ref C) (h : EvD K W te δ r) : EvD K W (tXf a cls d C f te) δ (e1 (xFld a d f) r) := by
  intro Hx H σ env Q p
  refine h Hx H σ env _ (p.seq ?_)
  rintro x H1 ⟨Hx1, dv, g, rx, p1⟩
  obtain ⟨z, hz, p0⟩ := p1.ofO
  clear p1
  cases rx with
  | exn0 a' =>
    have hz2 : (if a' = a ∧ none = d then ([] : List (Str × D)).lookup f else none) = some z := hz
    split at hz2 <;> cases hz2
  | @exn1 a' d' fs gs h1 h2 =>
    have hz2 : (if a' = a ∧ some d' = d then gs.lookup f else none) = some z := hz
    clear hz
    split at hz2
    · rename_i hh
      obtain ⟨e1, e2⟩ := hh
      subst e1 e2
      obtain ⟨v, h3, h4⟩ := h2.look hz2
      exact ⟨rfl, hc, d', fs, v, rfl, g.2.2.1 _ _ h1, h3, p0 _ _ _ (.refl g.2.2.1) h4⟩
    · cases hz2
  | _ => cases hz
/-! ### try -/
def unset (i : Nat) : Out → Out
  | .nx s => .nx { s with sl := s.sl.set i none }
  | .bk s => .bk { s with sl := s.sl.set i none }
  | .ct s => .ct { s with sl := s.sl.set i none }
  | .ret d => .ret d
  | .exc _ _ => .bad
  | .bad => .bad
  | .own _ _ => .bad
def sTry (n i : Nat) (catch_ : Addr → Option Bool) (mb : S → Out) (hx : Xn → S → Out) (s : S) : Out := match mb s with
  | .exc e s' => match catch_ e.c with
    | some true => if s'.sl.length = n then unset i (hx e (s'.put i (.dat (.exn 0 none e.fs)))) else .bad
    | some false => .exc e s'
    | none => .bad
  | o => o
theorem Fr.unset {B0 H0 : Hp} {A0 : List Addr} {ρ : List Addr} {Hb H : Hp} {σ : L2.St} {s : S} (F : Fr P w K B0 H0 A0 ρ Hb H σ s) (i : Nat) : Fr P w K B0 H0 A0 ρ Hb H (σ.set i none) { s with sl := s.sl.set i none } :=
  F.weak (by rw [List.length_set, List.length_set]; exact F.slen) fun j x h => by
    by_cases hj : i = j
    · subst hj
      by_cases hl : i < s.sl.length
      · rw [List.getElem?_set_self hl] at h
        cases h
      · rw [List.getElem?_eq_none (by rw [List.length_set]; omega)] at h
        cases h
    · rw [List.getElem?_set_ne hj] at h ⊢
      exact ⟨h, rfl⟩
theorem rn_try {n i : Nat} {cx : Value} {catch_ : Addr → Option Bool} {mb : S → Out} {hm : Addr → Option Addr → Xn → S → Out} {tb : WX → TS} {ts : Addr → Value → Option Addr → TS}
    (hb : ∀ W', Rn P w K W' (tb W') mb) (hc : ∀ C b, catch_ C = some b → PySem.W.exmOne K (.ref C) cx = some b) (hs : ∀ a d (x : Xn), catch_ x.c = some true → Rn P w K W0 (ts a (.ref x.c) d) (hm a d x))
    (heq : ∀ a d (x : Xn) (s : S), catch_ x.c = some true → s.sl.length = n → hm a d x (s.put i (.dat (.exn a d x.fs))) = hm 0 none x (s.put i (.dat (.exn 0 none x.fs)))) :
    Rn P w K W (fun E σ H => tb (wAs K cx i ts W E) E σ H) (sTry n i catch_ mb fun x s => hm 0 none x s) := by
  intro s B0 H0 A0 ρ Hb H σ E F q
  refine hb (wAs K cx i ts W E) s B0 H0 A0 ρ Hb H σ E F ?_
  unfold sTry at q
  cases e : mb s with
  | nx s' =>
    rw [e] at q
    exact q
  | bk s' =>
    rw [e] at q
    exact q
  | ct s' =>
    rw [e] at q
    exact q
  | ret d =>
    rw [e] at q
    exact q
  | bad =>
    rw [e] at q
    exact q
  | own s' i' =>
    rw [e] at q
    exact q
  | exc x s' =>
    rw [e] at q
    intro cls dd ρ' Hb' H' σ' up F' xr
    have ec : cls = .ref x.c := xr.1
    subst ec
    dsimp only at q
    cases hk : catch_ x.c with
    | none =>
      rw [hk] at q
      exact q.elim
    | some b =>
      rw [hk] at q
      refine ⟨b, hc _ _ hk, fun hbt a na => ?_, fun hbf => ?_⟩
      · subst hbt
        dsimp only at q
        split at q
        · rename_i hl
          have rx : R K Hb' (.ref a) (.exn a dd x.fs) := by
            rcases xr.2 with ⟨h1, h2⟩ | ⟨d, fv, h1, h2, h3⟩
            · rw [h1, h2]
              exact .exn0 a
            · rw [h1]
              exact .exn1 h2 h3
          refine hs a dd x hk (s'.put i (.dat (.exn a dd x.fs))) B0 H0 A0 ρ' Hb' H' _ _ (F'.set (i := i) (v := .ref a) (x := .dat (.exn a dd x.fs)) rx) ?_
          rw [heq a dd x s' hk hl]
          cases eo : hm 0 none x (s'.put i (.dat (.exn 0 none x.fs))) with
          | nx s2 =>
            rw [eo] at q
            exact fun ρ2 Hb2 H2 σ2 e2 F2 => q ρ2 Hb2 H2 _ (up.trans e2) (F2.unset i)
          | bk s2 =>
            rw [eo] at q
            exact fun ρ2 Hb2 H2 σ2 e2 F2 => q ρ2 Hb2 H2 _ (up.trans e2) (F2.unset i)
          | ct s2 =>
            rw [eo] at q
            exact fun ρ2 Hb2 H2 σ2 e2 F2 => q ρ2 Hb2 H2 _ (up.trans e2) (F2.unset i)
          | ret d =>
            rw [eo] at q
            exact q
          | exc y s2 =>
            rw [eo] at q
            exact q.elim
          | bad =>
            rw [eo] at q
            exact q.elim
          | own s2 i2 =>
            rw [eo] at q
            exact q.elim
        · exact q.elim
      · subst hbf
        exact q (.ref x.c) dd ρ' Hb' H' σ' up F' xr
end
/-! ### calls within a try's body -/
section
variable {X : Cx} {k j n : Nat} {x : Str} {ps ks : List Str} {sp : Sp} {E : L2.St → XK} {p pos : Pos} {e : Expr} {es : List Expr} {kws : List Keyword} {t tk : TA}
theorem pe_calS (h : Has X.prog X.w X.K X.mg X.base k x ps sp) (hr : Room j X.A) (hg : Gl X x) (hx : ∀ σ, PassesAt (L2.CX X.prog X.w) X σ (E σ)) (ha : PA X (e :: es) t) (hj : k ≤ j := by decide)
    (hdb : (x == ("__debug__" : Str)) = false := by decide) (he : starEach (e :: es) X.env = (false, eval e X.env) :: starEach es X.env := by rfl) (hpl : (backTo pos (starEach es X.env)).any (·.1) = false := by rfl) :
    PE X (.Call (.Name x p) (e :: es) [] pos) (tCallS sp E t) := by
  obtain ⟨f, fd, h1, h2, h3, h4⟩ := h
  exact pe_callS h4 (hr.mono hj) hg h1 h2 h3 hx ha hdb he hpl
def tCallNS (n m : Nat) (sp : Sp) (gV : List V → List V → List V) (E : L2.St → XK) (t tk : TA) : TE := fun σ H Q => t σ H fun vs H1 => tk σ H1 fun zs H2 => vs.length = n ∧ zs.length = m ∧ sp (gV vs zs) H2 Q (E σ)
theorem run_NS {CX : CXT} {f : Addr} {fd : FuncData} {g : List Value → List Value → List Value} {gV : List V → List V → List V} {E1 : XK} {pins : List (Addr × Obj)} {σ : L2.St} {H : Hp} {s : Shared} {Q : VK} {us ws : List Value} {vs zs : List V} (F : FnOk X.prog X.w X.K X.mg X.base CX k f fd ps sp) (hr : Room k X.A)
    (hb : KBn X.K fd ps n ks g gV) (hx : PassesAt CX X σ E1) (I : Inv X pins σ H s) (r : Vals vs us) (rz : Vals zs ws) (l1 : vs.length = n) (l2 : zs.length = ks.length) (h : sp (gV vs zs) H Q E1) : wpAny (model X.prog X.w) X.A (call (.ref f) us (ks.zip ws)) (EP X pins σ Q) X.xe s := by
  have r2 := hb.rel r rz
  have hl : (g us ws).length = ps.length := r2.length.symm.trans (F.len _ _ _ _ h)
  refine wpAny_call (codeAny_mono (F.run X.A X.stack s H ⟨us, ks.zip ws⟩ (g us ws) (gV vs zs) Q E1 hr I.env0 (hb.to s us ws I.kIn (r.length.symm.trans l1) (rz.length.symm.trans l2)) r2 h) fun rr s' hq => ?_)
  match rr, hq with
  | .error e, hq => exact hx pins H s e s' I hq
  | .ok (.ret u), hq => exact I.after hq
  | .ok .next, hq => exact False.elim hq
  | .ok .brk, hq => exact False.elim hq
  | .ok .cont, hq => exact False.elim hq
theorem pe_calNS0 (h : HasN X.prog X.w X.K X.mg X.base k x ps 0 ks sp) (hr : Room j X.A) (hg : Gl X x) (hx : ∀ σ, PassesAt (L2.CX X.prog X.w) X σ (E σ)) (hkw : PK X kws tk) (hj : k ≤ j := by decide)
    (hall : (backToKw pos (keywordEach kws X.env)).all (·.1.isSome) = true := by rfl) (hks : (backToKw pos (keywordEach kws X.env)).filterMap (·.1) = ks := by rfl)
    (hdb : (x == ("__debug__" : Str)) = false := by decide)
    (hpl : ((backTo pos (starEach [] X.env)).any (·.1) || (backToKw pos (keywordEach kws X.env)).any (·.1.isNone)) = false := by rfl) :
    PE X (.Call (.Name x p) [] kws pos) (tCallNS 0 ks.length sp gApp E tNil tk) := by
  obtain ⟨f, fd, h1, h2, ⟨g, h3⟩, h4⟩ := h
  refine ⟨fun pins s σ H Q I h => ?_⟩
  refine wpAny_Call_Name_kw (ld_glob I hg h1 ?_ hdb)
  refine PySem.W.callWith_KW0 (h₀ := X.base) I.ok.mod.kin h2 hall ?_ hpl
  refine thn (hkw.run pos pins s σ H _ I h) fun ws s2 ⟨zs, H2, I2, rz, l1, l2, q2⟩ => ⟨I2.kIn, ?_⟩
  rw [hks]
  exact run_NS (us := []) (vs := []) h4 (hr.mono hj) h3 (hx σ) I2 .nil rz rfl l2 q2
theorem pe_calNS (h : HasN X.prog X.w X.K X.mg X.base k x ps n ks sp) (hr : Room j X.A) (hg : Gl X x) (hx : ∀ σ, PassesAt (L2.CX X.prog X.w) X σ (E σ)) (ha : PA X (e :: es) t) (hkw : PK X kws tk) (hj : k ≤ j := by decide)
    (hall : (backToKw pos (keywordEach kws X.env)).all (·.1.isSome) = true := by rfl) (hks : (backToKw pos (keywordEach kws X.env)).filterMap (·.1) = ks := by rfl)
    (hdb : (x == ("__debug__" : Str)) = false := by decide) (he : starEach (e :: es) X.env = (false, eval e X.env) :: starEach es X.env := by rfl)
    (hpl : ((backTo pos (starEach (e :: es) X.env)).any (·.1) || (backToKw pos (keywordEach kws X.env)).any (·.1.isNone)) = false := by rfl) :
    PE X (.Call (.Name x p) (e :: es) kws pos) (tCallNS n ks.length sp gApp E t tk) := by
  obtain ⟨f, fd, h1, h2, ⟨g, h3⟩, h4⟩ := h
  refine ⟨fun pins s σ H Q I h => ?_⟩
  refine wpAny_Call_Name_kw (ld_glob I hg h1 ?_ hdb)
  refine PySem.W.callWith_KW (h₀ := X.base) I.ok.mod.kin h2 hall (thn (ha.run pos pins s σ H _ I h) fun us s1 ⟨vs, H1, I1, r, q⟩ => ?_) hpl he
  refine thn (hkw.run pos pins s1 σ H1 _ I1 q) fun ws s2 ⟨zs, H2, I2, rz, l1, l2, q2⟩ => ⟨I2.kIn, ?_⟩
  rw [hks]
  exact run_NS h4 (hr.mono hj) h3 (hx σ) I2 r rz l1 l2 q2
end
section
variable {P : Program} {w : World} {K : PySem.W.Frag} {W : WX} {δ : Dv}
theorem ev_callNS {n m : Nat} {f : List D → Rs D} {ta tk : TA} {as bs : Rs (List D)} (h : EvA K W ta δ as) (h2 : EvA K W tk δ bs) : EvD K W (tCallNS n m (spD K f) gApp (WE W) ta tk) δ (eCallN n m f as bs) := by
  intro Hx H σ env Q p
  refine h Hx H σ env _ (p.seq ?_)
  rintro xs H1 ⟨Hx1, ds, g, rx, p1⟩
  refine h2 Hx1 H1 σ (env.gw g) _ (p1.seq ?_)
  rintro ys H2 ⟨Hx2, es, g2, ry, p2⟩
  have p2' : Pst (RelD K) K W σ Hx2 H2 Q (if ds.length = n ∧ es.length = m then f (ds ++ es) else .bad) := p2
  clear p2
  split at p2'
  · rename_i hl
    refine ⟨rx.length.trans hl.1, ry.length.trans hl.2, Hx2, ds ++ es, g2.2.2.1, (rx.mono g2.1).append ry, ?_⟩
    cases hf : f (ds ++ es) with
    | ok d =>
      rw [hf] at p2'
      exact p2'
    | exc e =>
      rw [hf] at p2'
      exact p2'
    | bad =>
      rw [hf] at p2'
      exact p2'.elim
  · exact p2'.elim
theorem ev_bad {te : TE} : EvD K W te δ .bad := fun _ _ _ _ _ p => p.elim
end
end DL
set_option Elab.async false
set_option linter.all false
set_option maxRecDepth 100000
set_option maxHeartbeats 4000000
/-! The data layer, 13: replace of written texts. -/
namespace DL
open PySem PySem.Spec PyProof.Rows L2
open Evl (Ex ex_l ex_t fresh_back)
set_option autoImplicit false
section
variable {X : Cx} {a : Expr} {ta te : TE} {g : TG} {r : R2} {op : CmpOp} {body orelse : List Stmt} {tb to : TS} {k : Int} {j : Nat} {p1 p2 pos : Pos} {tg e : Expr}
/-- if a == k: within the body a token is out -/
theorem ps_ifT (ho : OpR X (compareOp op) r) (ha : PE X a ta) (hm : behindInMarks op (.Constant (.int k) j p1) = false) (hb : PSsT X body tb) (he : PSs X orelse to) :
    PS X (.If (.Compare a [op] [.Constant (.int k) j p1] p2) body orelse pos) (tIfS (tTest (tOp r ta (tC (.int k)))) tb to) := by
  refine ⟨fun pins s σ H D I h => ?_⟩
  have key : wpAny (model X.prog X.w) X.A (isTrue (.Compare a [op] [.Constant (.int k) j p1] p2) X.env (eval (.Compare a [op] [.Constant (.int k) j p1] p2) X.env)) (fun b s1 => 1 ≤ s1.toks ∧ TP X pins σ (fun b H1 => if b = true then tb D σ H1 else to D σ H1) b s1) X.xe s := by
    refine wpAny_isTrue_Compare1 (thn (ha.run pins s σ H _ I h) fun v s1 ⟨x, H1, I1, r1, q1⟩ => ?_) hm
    refine wpAny_Constant_int ?_
    have I2 : Inv X pins σ H1 { s1 with toks := s1.toks + 1 } := I1.tok _
    refine wpAny_mono (PySem.wpAny_toks (ho pins { s1 with toks := s1.toks + 1 } σ H1 x (.int k) v (.int k s1.toks) _ I2 r1 ⟨s1.toks, rfl⟩ q1)) (fun cc s3 q => ?_) fun _ _ z => z.2
    obtain ⟨hk, z, H3, I3, r3, kk, ez, q3⟩ := q
    subst ez
    cases r3
    have hk : s1.toks + 1 ≤ s3.toks := hk
    exact wpAny_truthy_bool ⟨by omega, H3, I3, q3⟩
  refine wpAny_If (wpAny_mono key (fun d s1 q => ?_) fun _ _ z => z)
  obtain ⟨h1, H1, I1, q1⟩ := q
  cases d with
  | true => exact hb pins s1 σ H1 D h1 I1 (by simpa using q1)
  | false => exact he.run pins s1 σ H1 D I1 (by simpa using q1)
theorem pst_asgT (he : PET X e te) (hg : PG X tg g) (hs : swapsWithSole [tg] e pos.line X.env = pure false := by rfl) (hw : swappedStores [tg] e X.env = pure none := by rfl)
    (h1 : (assignEach [tg] X.env).map (·.2) = [assign tg X.env] := by rfl) : PST X (.Assign [tg] e pos) (tAsg te g) := by
  intro pins s σ H D h0 I h
  refine wpAny_Assign_stores (thn (he pins s σ H _ h0 I h) fun v s1 ⟨x, H1, I1, r1, q1⟩ => ?_) hs hw
  rw [h1]
  exact thn (hg.run pins s1 σ H1 x v _ I1 r1 q1) fun _ s2 q => q
end
section
variable {K : PySem.W.Frag} {W : WX} {δ : Dv}
def dRepl (y z : Str) : D → Option D
  | .str x => if x.length + (x.length + 1) * z.length ≤ 16777216 then some (.str (Txt.replace x y z)) else none
  | _ => none
theorem ev_repl {y z : Str} {to : TE} {ra : Rs D} (h : EvD K W to δ ra) : EvD K W (CwR.tReplC to y z) δ (e1 (dRepl y z) ra) := by
  intro Hx H σ env Q p
  refine h Hx H σ env _ (p.seq ?_)
  rintro x H1 ⟨Hx1, d, g, rx, p1⟩
  obtain ⟨v, hv, p0⟩ := p1.ofO
  clear p1
  cases rx with
  | str x =>
    have hv2 : (if x.length + (x.length + 1) * z.length ≤ 16777216 then some (D.str (Txt.replace x y z)) else none) = some v := hv
    split at hv2
    · rename_i hl
      cases hv2
      exact ⟨x, rfl, hl, p0 _ _ _ (.refl g.2.2.1) (.str _)⟩
    · cases hv2
  | _ => cases hv
end
end DL
set_option Elab.async false
set_option linter.all false
set_option maxRecDepth 100000
set_option maxHeartbeats 4000000
/-! The data layer, 14: defs that hand out objects that may change. -/
namespace DL
open PySem PySem.Spec PyProof.Rows L2
open Evl (Ex ex_l ex_t fresh_back)
set_option autoImplicit false
/-- a value and the objects that it owns, counted from 0 -/
abbrev Gr := Xv × List (Option OO)
structure OwnR (P : Program) (w : World) (K : PySem.W.Frag) (ρ : List Addr) (Hb H0 H : Hp) (v : V) (x : Xv) (ce : List (Option OO)) : Prop where
  len : ρ.length = ce.length
  nd : ρ.Nodup
  there : ∀ a ∈ ρ, (∃ o, H a = some o) ∧ H0 a = none
  rx : RX K ρ Hb v x
  ce : ∀ (k : Nat) o, ce[k]? = some (some o) → ∃ a ho, ρ[k]? = some a ∧ Hb a = none ∧ H a = some ho ∧ RO P w K ρ Hb a ho o
def PsC (P : Program) (w : World) (K : PySem.W.Frag) (B0 H : Hp) (Q : VK) (E : XK) : Rs Gr → Prop
  | .ok g => ∀ v ρ Hb' H', Gw B0 H Hb' H' → OwnR P w K ρ Hb' H H' v g.1 g.2 → Q v H'
  | .exc e => ∀ cls dd Hb' H', Gw B0 H Hb' H' → XR K Hb' cls dd e → E cls dd H'
  | .bad => False
def spC (P : Program) (w : World) (K : PySem.W.Frag) (f : List D → Rs Gr) : Sp := fun vs H Q E => ∃ B0 ds, Ex B0 H ∧ RA K B0 vs ds ∧ PsC P w K B0 H Q E (f ds)
def endC : Out → Rs Gr
  | .own s i => match s.sl[i]? with
    | some (some x) => .ok (x, s.ce)
    | _ => .bad
  | .exc e _ => .exc e
  | _ => .bad
def fnC (n np : Nat) (m : S → Out) (ds : List D) : Rs Gr := if ds.length = np then endC (m (startX n ds)) else .bad
section
variable {P : Program} {w : World} {K : PySem.W.Frag} {mg : Str → Option Value} {base : Heap}
theorem defC_is {x qual : Str} {st : Stmt} {f : Addr} {fd : FuncData} {N ps : List Str} {k n np : Nat} {m : S → Out} (F : Fun K x qual st f fd) (Sc : FnScope N ps (defScope st)) (hn : N.length = n) (hp : ps.length = np)
    (hbody : ∀ (cdv : Value) (A : Around) (outer : List PySem.Env) (s : Shared) (H : Hp) (E : XK), Room k (A.deeper (envOfC qual (defScope st) s.heap.objs.size f cdv)) →
      ∃ t, PSs (cxOf (L2.CX P w) P w K mg base N qual (defScope st) f cdv A outer s H E) (defBody st) t ∧ Rn P w K (WOf E) t m) :
    FnOk P w K mg base (L2.CX P w) (k + 1) f fd ps (spC P w K (fnC n np m)) := by
  subst hn hp
  refine F.okX Sc (fun vs H Q E h => ?_) (fun cdv A outer s H vs Q E hr h => ?_)
  · obtain ⟨B0, ds, e, r, p⟩ := h
    unfold fnC at p
    split at p
    · rename_i hl
      rw [r.length]
      exact hl
    · exact p.elim
  · obtain ⟨t, h1, h2⟩ := hbody cdv A outer s H E hr
    obtain ⟨B0, ds, e, r, p⟩ := h
    refine ⟨t, h1, h2 (startX N.length ds) B0 H [] [] B0 H _ _ (fr_start e r) ?_⟩
    unfold fnC at p
    split at p
    · cases ho : m (startX N.length ds) with
      | own s' i' =>
        rw [ho] at p
        unfold endC at p
        dsimp only at p
        split at p
        · rename_i x hx
          intro ρ Hb' H' σ v _ F' hv
          obtain ⟨v', h3, h4⟩ := F'.sl i' x hx
          rw [hv] at h3
          cases h3
          exact p v ρ Hb' H' ⟨F'.b0, F'.h0, F'.ex, F'.hid⟩ ⟨F'.len, F'.nd, F'.there, h4, F'.ce⟩
        · exact p.elim
      | exc x s' =>
        rw [ho] at p
        exact fun cls dd ρ Hb' H' σ _ F' xr => p cls dd Hb' H' ⟨F'.b0, F'.h0, F'.ex, F'.hid⟩ xr
      | nx s' =>
        rw [ho] at p
        exact p.elim
      | ret d =>
        rw [ho] at p
        exact p.elim
      | bk s' =>
        rw [ho] at p
        exact p.elim
      | ct s' =>
        rw [ho] at p
        exact p.elim
      | bad =>
        rw [ho] at p
        exact p.elim
    · exact p.elim
variable {W : WX}
/-! ### shifted -/
def shX (n : Nat) : Xv → Xv
  | .dat d => .dat d
  | .cell k => .cell (n + k)
def shO (n : Nat) : OO → OO
  | .lst xs => .lst (xs.map (shX n))
  | .dic kvs => .dic (kvs.map fun p => (p.1, shX n p.2))
  | .kset ks => .kset ks
  | .ins c fs => .ins c (fs.map fun p => (p.1, shX n p.2))
theorem shX_R {ρ ρ2 : List Addr} {Hb : Hp} {v : V} {x : Xv} (r : RX K ρ2 Hb v x) : RX K (ρ ++ ρ2) Hb v (shX ρ.length x) := by
  cases x with
  | dat d => exact r
  | cell k =>
    obtain ⟨a, h1, h2⟩ := r
    refine ⟨a, ?_, h2⟩
    rw [List.getElem?_append_right (by omega)]
    rw [show ρ.length + k - ρ.length = k by omega]
    exact h1
theorem shO_R {ρ ρ2 : List Addr} {Hb : Hp} {a : Addr} {ho : HO} {o : OO} (r : RO P w K ρ2 Hb a ho o) : RO P w K (ρ ++ ρ2) Hb a ho (shO ρ.length o) := by
  cases o with
  | lst xs =>
    obtain ⟨vs, h, r⟩ := r
    refine ⟨vs, h, ?_⟩
    clear h
    induction r with
    | nil => exact .nil
    | cons r _ ih => exact .cons (shX_R r) ih
  | dic xs =>
    obtain ⟨vs, h, r⟩ := r
    refine ⟨vs, h, ?_⟩
    clear h
    induction r with
    | nil => exact .nil
    | cons r _ ih => exact .cons ⟨r.1, shX_R r.2⟩ ih
  | kset ks => exact r
  | ins c xs =>
    obtain ⟨dx, vs, h, r⟩ := r
    refine ⟨dx, vs, h, ?_⟩
    clear h
    induction r with
    | nil => exact .nil
    | cons r _ ih => exact .cons ⟨r.1, shX_R r.2⟩ ih
/-- x = f(..), f hands out what it owns -/
def sSetC (i : Nat) (m : Dv → Rs (List D)) (f : List D → Rs Gr) (s : S) : Out := oX s ((m (envB s)).bind f) fun g => .nx { sl := s.sl.set i (some (shX s.ce.length g.1)), ce := s.ce ++ g.2.map fun o => o.map (shO s.ce.length) }
theorem Fr.join {B0 H0 Hb H Hb1 H1 : Hp} {A0 : List Addr} {ρ ρ2 : List Addr} {σ : L2.St} {s : S} {v : V} {x : Xv} {ce : List (Option OO)} (F : Fr P w K B0 H0 A0 ρ Hb H σ s) (g : Gw Hb H Hb1 H1) (O : OwnR P w K ρ2 Hb1 H H1 v x ce) :
    Fr P w K B0 H0 A0 (ρ ++ ρ2) Hb1 H1 σ { s with ce := s.ce ++ ce.map fun o => o.map (shO s.ce.length) } := by
  have G := F.gw g
  refine ⟨G.ex, G.b0, G.h0, G.hid, by simp [F.len, O.len], G.slen, ?_, fun a h => ?_, fun a ha => ?_, fun i x h => ?_, fun k u h => ?_⟩
  · rw [List.nodup_append]
    refine ⟨F.nd, O.nd, fun a ha b hb => ?_⟩
    intro z
    subst z
    obtain ⟨⟨o, h1⟩, _⟩ := F.there a ha
    rw [(O.there a hb).2] at h1
    cases h1
  · have z := F.anc a h
    cases ρ with
    | nil => cases z
    | cons b r => exact z
  · rcases List.mem_append.mp ha with h | h
    · exact G.there a h
    · refine ⟨(O.there a h).1, ?_⟩
      have := (O.there a h).2
      exact fresh_back F.h0 this
  · obtain ⟨v, q1, q2⟩ := G.sl i x h
    exact ⟨v, q1, q2.mono (Evl.Ex.refl _) fun k a h => by
      rw [List.getElem?_append_left (List.getElem?_eq_some_iff.mp h).1]
      exact h⟩
  · have h : (s.ce ++ ce.map fun o => o.map (shO s.ce.length))[k]? = some (some u) := h
    by_cases hk : k < s.ce.length
    · rw [List.getElem?_append_left hk] at h
      obtain ⟨a, hu, q1, q2, q3, q4⟩ := G.ce k u h
      have up : ∀ (k : Nat) a, ρ[k]? = some a → (ρ ++ ρ2)[k]? = some a := fun k a h => by
        rw [List.getElem?_append_left (List.getElem?_eq_some_iff.mp h).1]
        exact h
      exact ⟨a, hu, up k a q1, q2, q3, q4.mono (Evl.Ex.refl _) up⟩
    · rw [List.getElem?_append_right (by omega), List.getElem?_map] at h
      cases hc : ce[k - s.ce.length]? with
      | none =>
        rw [hc] at h
        cases h
      | some o =>
        rw [hc] at h
        cases o with
        | none => cases h
        | some o =>
          cases h
          obtain ⟨a, hu, q1, q2, q3, q4⟩ := O.ce _ o hc
          refine ⟨a, hu, ?_, q2, q3, ?_⟩
          · rw [List.getElem?_append_right (by rw [F.len]; omega), F.len]
            exact q1
          · rw [← F.len]
            exact shO_R q4
theorem rn_setC {E : XK} {i : Nat} {ta : TA} {m : Dv → Rs (List D)} {f : List D → Rs Gr} (h : ∀ δ, EvA K (WOf E) ta δ (m δ)) : Rn P w K (WOf E) (tAsg (tCall (spC P w K f) [] E ta) (gName i)) (sSetC i m f) := by
  intro s B0 H0 A0 ρ Hb H σ En F q
  refine h (envB s) Hb H σ F.envB _ ?_
  unfold sSetC oX at q
  cases e : m (envB s) with
  | exc x =>
    rw [e] at q
    exact fun cls dd Hb' H' g x => q cls dd ρ Hb' H' σ g.1 (F.gw g) x
  | bad =>
    rw [e] at q
    exact q
  | ok ds =>
    rw [e] at q
    intro vs Hb1 H1 g r
    have F1 := F.gw g
    refine ⟨Hb1, ds, g.2.2.1, by rw [List.append_nil]; exact r, ?_⟩
    have q' := Mt.later q g.1
    clear q
    rw [Rs.bind_ok] at q'
    cases hf : f ds with
    | exc x =>
      rw [hf] at q'
      exact fun cls dd Hb' H' g2 x => q' cls dd ρ Hb' H' σ g2.1 (F1.gw g2) x
    | bad =>
      rw [hf] at q'
      exact q'.elim
    | ok gr =>
      rw [hf] at q'
      intro v ρ2 Hb2 H2 g2 O
      refine q' (ρ ++ ρ2) Hb2 H2 _ g2.1 ((F1.join g2 O).set ?_)
      rw [← F.len]
      exact shX_R O.rx
/-! ### a new list put into a list of the def's own, as one that may change -/
def sAppN (mo : S → Rs Xv) (m : Dv → Rs NO) (s : S) : Out := oX s (mo s) fun c => match cellOf s c with
  | some (k, .lst xs) => oX s (m (envB s)) fun o => if xs.length < sizeLine then .nx { sl := s.sl, ce := s.ce.set k (some (.lst (xs ++ [.cell s.ce.length]))) ++ [some (noO o)] } else .bad
  | _ => .bad
theorem rn_appN {to te : TE} {mo : S → Rs Xv} {m : Dv → Rs NO} (ho : EvX P w K W to mo) (hm : ∀ δ, EvN P w K W te δ (m δ)) : Rn P w K W (tDrop (tBM K "list" rAppend to (tCons te tNil))) (sAppN mo m) := by
  intro s B0 H0 A0 ρ Hb H σ E F q
  refine ho s B0 H0 A0 ρ Hb H σ F _ (PsX.seq q ?_)
  intro v c Hb1 H1 g1 F1 rc q
  split at q
  · rename_i k xs hc
    obtain ⟨a, vs, rfl, ha, hh, r4, hk⟩ := lst_cell F1 rc hc
    refine ⟨.inl ⟨rfl, _, SqL.of hh⟩, ?_⟩
    refine hm (envB s) Hb1 H1 σ F1.envB _ ?_
    cases e : m (envB s) with
    | exc x =>
      rw [e] at q
      exact fun cls dd Hb' H' g x => q cls dd ρ Hb' H' σ g.1 (F1.gw g) x
    | bad =>
      rw [e] at q
      exact q
    | ok o =>
      rw [e] at q
      intro p pho Hb2 H2 g2 h1 h2 h3 rn
      have q' : Mt P w K W B0 H0 A0 Hb1 E (if xs.length < sizeLine then .nx { sl := s.sl, ce := s.ce.set k (some (.lst (xs ++ [.cell s.ce.length]))) ++ [some (noO o)] } else .bad) := q
      clear q
      split at q'
      · rename_i hz
        have F2 := F1.adopt g2 h1 h2 h3 (rn.ro (ρ := ρ))
        have kl : k < s.ce.length := (List.getElem?_eq_some_iff.mp hk).1
        have hc2 : cellOf ({ s with ce := s.ce ++ [some (noO o)] } : S) c = some (k, .lst xs) := by
          obtain ⟨e1, e2⟩ := cellOf_is hc
          subst e1
          show (match (s.ce ++ [some (noO o)])[k]? with | some (some o) => some (k, o) | _ => none) = _
          rw [List.getElem?_append_left kl, e2]
        obtain ⟨a', vs', e1, ha', hh', r4', hk'⟩ := lst_cell F2 ((rc.up g2.1).mono (Evl.Ex.refl _) app_get) hc2
        cases e1
        refine ⟨a, vs', .ref p, rfl, rfl, hh', by rw [xs_len r4']; exact hz, ?_⟩
        have rp : RX K (ρ ++ [p]) Hb2 (.ref p) (.cell s.ce.length) := ⟨p, by rw [← F.len]; simp, rfl⟩
        have F3 := F2.write (o' := .lst (xs ++ [.cell s.ce.length])) hk' ha' ⟨_, rfl, xs_app r4' (.cons rp .nil)⟩
        have es : ({ s with ce := s.ce ++ [some (noO o)] } : S).ce.set k (some (.lst (xs ++ [.cell s.ce.length]))) = s.ce.set k (some (.lst (xs ++ [.cell s.ce.length]))) ++ [some (noO o)] := by
          show (s.ce ++ [some (noO o)]).set k _ = _
          rw [List.set_append_left _ _ kl]
        refine q' (ρ ++ [p]) Hb2 _ σ g2.1 ?_
        rw [← es]
        exact F3
      · exact q'.elim
  · exact q.elim
/-! ### x = xs[i], xs a list of the def's own, what stands there may be one, too -/
def sSetIx (i : Nat) (mo mi : S → Rs Xv) (s : S) : Out := oX s (mo s) fun c => oX s (mi s) fun iv => match cellOf s c, iv with
  | some (_, .lst xs), .dat (.int j) => match ixN xs.length j with
    | some k => match xs[k]? with
      | some x => .nx (s.put i x)
      | none => .bad
    | none => .bad
  | _, _ => .bad
theorem rn_setIx {to ti : TE} {mo mi : S → Rs Xv} {i : Nat} (ho : EvX P w K W to mo) (hi : EvX P w K W ti mi) : Rn P w K W (tAsg (tOp (rIx K) to ti) (gName i)) (sSetIx i mo mi) := by
  intro s B0 H0 A0 ρ Hb H σ E F q
  refine ho s B0 H0 A0 ρ Hb H σ F _ (PsX.seq q ?_)
  intro v c Hb1 H1 g1 F1 rc q
  refine hi s B0 H0 A0 ρ Hb1 H1 σ F1 _ (PsX.seq q ?_)
  intro iv ix Hb2 H2 g2 F2 ri q
  split at q
  · rename_i kk xs j hc
    split at q
    · rename_i k hk
      split at q
      · rename_i x hx
        cases ri
        obtain ⟨a, vs, rfl, ha, hh, r4, _⟩ := lst_cell F2 (rc.up g2) hc
        obtain ⟨u, hu, ru⟩ := xs_get r4 hx
        refine .inl ⟨a, vs, j, u, rfl, rfl, SqL.of hh, ?_, q ρ Hb2 H2 _ (.refl _) (F2.set ru)⟩
        unfold atI
        rw [xs_len r4, hk]
        exact hu
      · exact q.elim
    · exact q.elim
  · exact q.elim
/-! ### an object and the lists in it become data -/
def cellIx : Xv → Option Nat
  | .cell k => some k
  | .dat _ => none
def frzAll : List Nat → S → Option S
  | [], s => some s
  | k :: ks, s => (frzK k s).bind (frzAll ks)
theorem frzK_ok {B0 H0 : Hp} {A0 : List Addr} {ρ : List Addr} {Hb H : Hp} {σ : L2.St} {s s' : S} {k : Nat} (F : Fr P w K B0 H0 A0 ρ Hb H σ s) (hf : frzK k s = some s') : ∃ ρ' Hb', Ex Hb Hb' ∧ Fr P w K B0 H0 A0 ρ' Hb' H σ s' := by
  unfold frzK at hf
  split at hf
  · rename_i xs hc
    cases e : allDat xs with
    | none =>
      rw [e] at hf
      cases hf
    | some ds =>
      rw [e] at hf
      cases hf
      obtain ⟨a, ho, q1, q2, q3, vs, rfl, q4⟩ := F.ce k _ hc
      have rd : R K (upd Hb a (.lst vs)) (.ref a) (.lst ds) := .lst upd_same ((allDat_R q4 e).mono (Evl.Ex.new q2))
      obtain ⟨ρ', F'⟩ := frz_cut (List.getElem?_eq_some_iff.mp hc).1 (frz_core F q1 q2 q3 rd)
      exact ⟨ρ', _, Evl.Ex.new q2, F'⟩
  · rename_i kvs hc
    cases e : allDat (kvs.map (·.2)) with
    | none =>
      rw [e] at hf
      cases hf
    | some ds =>
      rw [e] at hf
      cases hf
      obtain ⟨a, ho, q1, q2, q3, vs, rfl, q4⟩ := F.ce k _ hc
      have rd : R K (upd Hb a (.dK vs)) (.ref a) (.dic ((kvs.map (·.1)).zip ds)) := .dic upd_same ((dic_R q4 e).mono (Evl.Ex.new q2))
      obtain ⟨ρ', F'⟩ := frz_cut (List.getElem?_eq_some_iff.mp hc).1 (frz_core F q1 q2 q3 rd)
      exact ⟨ρ', _, Evl.Ex.new q2, F'⟩
  · cases hf
theorem frzAll_ok {B0 H0 : Hp} {A0 : List Addr} {H : Hp} {σ : L2.St} : ∀ {ks : List Nat} {ρ : List Addr} {Hb : Hp} {s s' : S}, Fr P w K B0 H0 A0 ρ Hb H σ s → frzAll ks s = some s' → ∃ ρ' Hb', Ex Hb Hb' ∧ Fr P w K B0 H0 A0 ρ' Hb' H σ s'
  | [], _, _, _, _, F, h => by
    cases h
    exact ⟨_, _, .refl _, F⟩
  | k :: ks, _, _, s, _, F, h => by
    have h : (frzK k s).bind (frzAll ks) = some _ := h
    cases hk : frzK k s with
    | none =>
      rw [hk] at h
      cases h
    | some s1 =>
      rw [hk] at h
      obtain ⟨ρ1, Hb1, e1, F1⟩ := frzK_ok F hk
      obtain ⟨ρ2, Hb2, e2, F2⟩ := frzAll_ok F1 h
      exact ⟨ρ2, Hb2, e1.trans e2, F2⟩
def sFrzD (i : Nat) (s : S) : Out := match s.sl[i]? with
  | some (some (.cell k)) => match s.ce[k]? with
    | some (some (.lst xs)) => match frzAll ((xs.filterMap cellIx).reverse ++ [k]) s with
      | some s' => .nx s'
      | none => .bad
    | _ => .bad
  | _ => .nx s
theorem rn_frzD {t : TS} {m : S → Out} (i : Nat) (h : Rn P w K W t m) : Rn P w K W t (sSeq (sFrzD i) m) := by
  intro s B0 H0 A0 ρ Hb H σ E F q
  unfold sSeq sFrzD at q
  split at q
  · split at q
    · split at q
      · rename_i s' hf
        obtain ⟨ρ', Hb', e, F'⟩ := frzAll_ok F hf
        exact h s' B0 H0 A0 ρ' Hb' H σ E F' (Mt.later q e)
      · exact q.elim
    · exact q.elim
  · exact h s B0 H0 A0 ρ Hb H σ E F q
end
end DL
set_option Elab.async false
set_option linter.all false
set_option maxRecDepth 100000
set_option maxHeartbeats 4000000
/-! The data layer, 15: defs by their facts. -/
namespace DL
open PySem PySem.Spec PyProof.Rows L2
set_option autoImplicit false
section
variable {P : Program} {w : World} {K : PySem.W.Frag} {mg : Str → Option Value} {base : Heap} {k n : Nat} {x m : Str} {f p C : Addr} {fd : FuncData} {ps ks : List Str} {sp : Sp}
theorem has_mk (h1 : mg x = some (.ref f)) (h2 : PySem.W.keepIn K (.ref f) = true) (h3 : Binds K fd ps []) (h4 : FnOk P w K mg base (L2.CX P w) k f fd ps sp) : Has P w K mg base k x ps sp := ⟨f, fd, h1, h2, h3, h4⟩
theorem hasN_mk (h1 : mg x = some (.ref f)) (h2 : PySem.W.keepIn K (.ref f) = true) (h3 : ∃ g, KBn K fd ps n ks g gApp) (h4 : FnOk P w K mg base (L2.CX P w) k f fd ps sp) : HasN P w K mg base k x ps n ks sp := ⟨f, fd, h1, h2, h3, h4⟩
theorem hasM_mk (h1 : Meth K C m f) (h3 : Binds K fd ps []) (h4 : FnOk P w K mg base (L2.CX P w) k f fd ps sp) : HasM P w K mg base k C m ps sp := ⟨f, fd, h1, h3, h4⟩
theorem hasP_mk (h1 : PropOf K C m p f) (h3 : Binds K fd ps []) (h4 : FnOk P w K mg base (L2.CX P w) k f fd ps sp) : HasP P w K mg base k C m ps sp := ⟨p, f, fd, h1, h3, h4⟩
theorem hasI_mk (h1 : Mk K C f) (h2 : mg x = some (.ref C)) (h3 : Binds K fd ps []) (h4 : FnOk P w K mg base (L2.CX P w) k f fd ps sp) : HasI P w K mg base k x C ps sp := ⟨f, fd, h1, h2, h3, h4⟩
theorem hasX_mk (h1 : OexC K C) (h2 : PySem.W.findIn K (.ref C) "__init__" = some (some (.ref f))) (h3 : PySem.W.typeIn K (.ref f) = some (.type "function")) (h4 : mg x = some (.ref C)) (h5 : Binds K fd ps []) (h6 : FnOk P w K mg base (L2.CX P w) k f fd ps sp) : HasX P w K mg base k x C ps sp := ⟨f, fd, h1, h2, h3, h4, h5, h6⟩
end
/-! ### what isinstance and except ask of the classes -/
section
variable {K : PySem.W.Frag} {C D : Addr} {b : Bool} {t : Value}
theorem kit_self : PySem.W.kitOne K (.ref C) (.ref C) = some true := by
  unfold PySem.W.kitOne
  rw [if_pos (by simp)]
theorem kit_cls (hd : PySem.W.hasDictIn K C = true) (ht : PySem.W.typeIn K (.ref C) = some (.type "type")) (hs : PySem.W.subIn K t (.ref C) = some b) (hn : (t == Value.ref C) = false) : PySem.W.kitOne K t (.ref C) = some b := by
  obtain ⟨cd, hc, _⟩ := PySem.W.any_some hd
  unfold PySem.W.kitOne
  rw [hn, if_neg Bool.false_ne_true]
  show (if ((PySem.W.clsIn K C).isSome && PySem.W.typeIn K (.ref C) == some (.type "type")) = true then PySem.W.subIn K t (.ref C) else none) = some b
  rw [hc, ht, if_pos (by rfl)]
  exact hs
theorem kit_blt {T : String} (hm : PySem.W.kitMeta T = true) (hs : PySem.W.subIn K (.ref D) (.type T) = some b) : PySem.W.kitOne K (.ref D) (.type T) = some b := by
  unfold PySem.W.kitOne
  rw [if_neg (by intro z; cases (beq_iff_eq.mp z))]
  show (if PySem.W.kitMeta T = true then PySem.W.subIn K (.ref D) (.type T) else none) = some b
  rw [if_pos hm]
  exact hs
end
end DL
set_option Elab.async false
set_option linter.all false
set_option maxRecDepth 100000
set_option maxHeartbeats 4000000
/-! The data layer, 16: equations by which simp reads mirrors. -/
namespace DL
open PySem PySem.Spec PyProof.Rows L2
set_option autoImplicit false
section
variable {α β : Type}
@[simp] theorem q_oX_ok (s : S) (a : α) (f : α → Out) : oX s (.ok a) f = f a := rfl
@[simp] theorem q_oX_exc (s : S) (e : Xn) (f : α → Out) : oX s (.exc e) f = .exc e s := rfl
@[simp] theorem q_oX_bad (s : S) (f : α → Out) : oX s (.bad) f = .bad := rfl
@[simp] theorem q_seq_nx (s : S) (f : S → Out) : (Out.nx s).seq f = f s := rfl
@[simp] theorem q_seq_ret (d : D) (f : S → Out) : (Out.ret d).seq f = .ret d := rfl
@[simp] theorem q_seq_bk (s : S) (f : S → Out) : (Out.bk s).seq f = .bk s := rfl
@[simp] theorem q_seq_ct (s : S) (f : S → Out) : (Out.ct s).seq f = .ct s := rfl
@[simp] theorem q_seq_exc (e : Xn) (s : S) (f : S → Out) : (Out.exc e s).seq f = .exc e s := rfl
@[simp] theorem q_seq_bad (f : S → Out) : (Out.bad).seq f = .bad := rfl
@[simp] theorem q_seq_own (s : S) (i : Nat) (f : S → Out) : (Out.own s i).seq f = .own s i := rfl
@[simp] theorem q_endD_nx (s : S) : endD (.nx s) = .ok .non := rfl
@[simp] theorem q_endD_ret (d : D) : endD (.ret d) = .ok d := rfl
@[simp] theorem q_endD_exc (e : Xn) (s : S) : endD (.exc e s) = .exc e := rfl
@[simp] theorem q_endD_bad : endD .bad = .bad := rfl
@[simp] theorem q_sSeq (m1 m2 : S → Out) (s : S) : sSeq m1 m2 s = (m1 s).seq m2 := rfl
@[simp] theorem q_sNil (s : S) : sNil s = .nx s := rfl
@[simp] theorem q_sSet (i : Nat) (m : S → Rs Xv) (s : S) : sSet i m s = oX s (m s) fun x => .nx (s.put i x) := rfl
@[simp] theorem q_sDrop (m : S → Rs Xv) (s : S) : sDrop m s = oX s (m s) fun _ => .nx s := rfl
@[simp] theorem q_sIf (c : S → Rs Bool) (a b : S → Out) (s : S) : sIf c a b s = oX s (c s) fun k => if k = true then a s else b s := rfl
@[simp] theorem q_sRet (m : S → Rs D) (s : S) : sRet m s = oX s (m s) .ret := rfl
@[simp] theorem q_sNew (i : Nat) (m : S → Rs NO) (s : S) : sNew i m s = oX s (m s) fun o => .nx { sl := s.sl.set i (some (.cell s.ce.length)), ce := s.ce ++ [some (noO o)] } := rfl
@[simp] theorem q_nB (m : Dv → Rs NO) (s : S) : nB m s = m (envB s) := rfl
@[simp] theorem q_noO_lst (xs : List D) : noO (.lst xs) = .lst (xs.map .dat) := rfl
@[simp] theorem q_noO_dic (xs : List (Key × D)) : noO (.dic xs) = .dic (xs.map fun p => (p.1, .dat p.2)) := rfl
@[simp] theorem q_noO_set (xs : List Key) : noO (.kset xs) = .kset xs := rfl
@[simp] theorem q_noD_lst (xs : List D) : noD (.lst xs) = .ok (.lst xs) := rfl
@[simp] theorem q_noD_dic (xs : List (Key × D)) : noD (.dic xs) = .ok (.dic xs) := rfl
@[simp] theorem q_put (sl : List (Option Xv)) (ce : List (Option OO)) (i : Nat) (x : Xv) : S.put ⟨sl, ce⟩ i x = ⟨sl.set i (some x), ce⟩ := rfl
@[simp] theorem q_setCell (sl : List (Option Xv)) (ce : List (Option OO)) (k : Nat) (o : OO) : S.setCell ⟨sl, ce⟩ k o = ⟨sl, ce.set k (some o)⟩ := rfl
@[simp] theorem q_xB (m : Dv → Rs D) (s : S) : xB m s = (m (envB s)).bind fun d => .ok (.dat d) := rfl
@[simp] theorem q_rB (m : Dv → Rs D) (s : S) : rB m s = m (envB s) := rfl
@[simp] theorem q_tBs (m : Dv → Rs Bool) (s : S) : tBs m s = m (envB s) := rfl
def okOnly : Rs α → Rs α
  | .ok a => .ok a
  | _ => .bad
@[simp] theorem q_okOnly (a : α) : okOnly (.ok a) = .ok a := rfl
@[simp] theorem q_okOnly_bad : okOnly (.bad : Rs α) = .bad := rfl
@[simp] theorem q_okOnly_exc (e : Xn) : okOnly (.exc e : Rs α) = .bad := rfl
@[simp] theorem q_rV (m : Dv → Rs D) (s : S) : rV m s = okOnly (m (envV s)) := by
  unfold rV okOnly
  cases m (envV s) <;> rfl
@[simp] theorem q_tVs (m : Dv → Rs Bool) (s : S) : tVs m s = okOnly (m (envV s)) := by
  unfold tVs okOnly
  cases m (envV s) <;> rfl
def flatX (d : D) : Rs Xv := if flatD d = true then .ok (.dat d) else .bad
@[simp] theorem q_xV (m : Dv → Rs D) (s : S) : xV m s = (okOnly (m (envV s))).bind flatX := by
  unfold xV okOnly flatX
  cases m (envV s) <;> rfl
@[simp] theorem q_flat_int (i : Int) : flatX (.int i) = .ok (.dat (.int i)) := rfl
@[simp] theorem q_flat_str (i : Str) : flatX (.str i) = .ok (.dat (.str i)) := rfl
@[simp] theorem q_flat_bl (i : Bool) : flatX (.bl i) = .ok (.dat (.bl i)) := rfl
@[simp] theorem q_flat_non : flatX .non = .ok (.dat .non) := rfl
def cellAt : Option (Option Xv) → Rs Xv
  | some (some (.cell k)) => .ok (.cell k)
  | _ => .bad
@[simp] theorem q_cellAt (k : Nat) : cellAt (some (some (.cell k))) = .ok (.cell k) := rfl
@[simp] theorem q_xC (i : Nat) (sl : List (Option Xv)) (ce : List (Option OO)) : xC i ⟨sl, ce⟩ = cellAt sl[i]? := by
  unfold xC cellAt
  rfl
@[simp] theorem q_envB (sl : List (Option Xv)) (ce : List (Option OO)) : envB ⟨sl, ce⟩ = sl.map fun o => o.bind baseX := rfl
@[simp] theorem q_envV (sl : List (Option Xv)) (ce : List (Option OO)) : envV ⟨sl, ce⟩ = sl.map fun o => o.bind (viewX ce 3) := rfl
@[simp] theorem q_baseX_dat (d : D) : baseX (.dat d) = some d := rfl
@[simp] theorem q_baseX_cell (k : Nat) : baseX (.cell k) = none := rfl
@[simp] theorem q_viewX_dat (ce : List (Option OO)) (n : Nat) (d : D) : viewX ce n (.dat d) = some d := by
  cases n <;> rfl
def viewO (ce : List (Option OO)) (n : Nat) : Option (Option OO) → Option D
  | some (some (.lst xs)) => (xs.mapM (viewX ce n)).map D.lst
  | some (some (.dic kvs)) => (kvs.mapM fun p => (viewX ce n p.2).map fun d => (p.1, d)).map D.dic
  | some (some (.ins c fs)) => (fs.mapM fun p => (viewX ce n p.2).map fun d => (p.1, d)).map (D.ins c)
  | _ => none
theorem q_viewX_cell (ce : List (Option OO)) (n k : Nat) : viewX ce (n + 1) (.cell k) = viewO ce n ce[k]? := by
  rfl
@[simp] theorem q_view3 (ce : List (Option OO)) (k : Nat) : viewX ce 3 (.cell k) = viewO ce 2 ce[k]? := q_viewX_cell ce 2 k
@[simp] theorem q_view2 (ce : List (Option OO)) (k : Nat) : viewX ce 2 (.cell k) = viewO ce 1 ce[k]? := q_viewX_cell ce 1 k
@[simp] theorem q_view1 (ce : List (Option OO)) (k : Nat) : viewX ce 1 (.cell k) = viewO ce 0 ce[k]? := q_viewX_cell ce 0 k
theorem mapM_dat {ce : List (Option OO)} {n : Nat} : ∀ ds : List D, (ds.map Xv.dat).mapM (viewX ce n) = some ds
  | [] => rfl
  | d :: ds => by
    rw [List.map_cons, List.mapM_cons, mapM_dat ds]
    simp
@[simp] theorem q_viewO_lst (ce : List (Option OO)) (n : Nat) (ds : List D) : viewO ce n (some (some (.lst (ds.map .dat)))) = some (.lst ds) := by
  show ((ds.map Xv.dat).mapM (viewX ce n)).map D.lst = _
  rw [mapM_dat]
  rfl
@[simp] theorem q_viewO_nil (ce : List (Option OO)) (n : Nat) : viewO ce n (some (some (.lst []))) = some (.lst []) := rfl
theorem mapM_datK {ce : List (Option OO)} {n : Nat} : ∀ ds : List (Key × D), ((ds.map fun p : Key × D => (p.1, Xv.dat p.2)).mapM fun p : Key × Xv => (viewX ce n p.2).map fun d => (p.1, d)) = some ds
  | [] => rfl
  | d :: ds => by
    rw [List.map_cons, List.mapM_cons, mapM_datK ds]
    simp
@[simp] theorem q_viewO_dic (ce : List (Option OO)) (n : Nat) (ds : List (Key × D)) : viewO ce n (some (some (.dic (ds.map fun p => (p.1, .dat p.2))))) = some (.dic ds) := by
  show ((ds.map fun p : Key × D => (p.1, Xv.dat p.2)).mapM fun p : Key × Xv => (viewX ce n p.2).map fun d => (p.1, d)).map D.dic = _
  rw [mapM_datK]
  rfl
@[simp] theorem q_eVar0 (d : D) (δ : Dv) : eVar 0 (some d :: δ) = .ok d := rfl
@[simp] theorem q_eVar0n (δ : Dv) : eVar 0 (none :: δ) = .bad := rfl
@[simp] theorem q_eVarS (n : Nat) (o : Option D) (δ : Dv) : eVar (n + 1) (o :: δ) = eVar n δ := by
  unfold eVar
  rw [List.getElem?_cons_succ]
@[simp] theorem q_bind_ite {p : Prop} [Decidable p] (a b : Rs α) (f : α → Rs β) : (if p then a else b).bind f = if p then a.bind f else b.bind f := by
  split <;> rfl
@[simp] theorem q_oX_ite {p : Prop} [Decidable p] (s : S) (a b : Rs α) (f : α → Out) : oX s (if p then a else b) f = if p then oX s a f else oX s b f := by
  split <;> rfl
@[simp] theorem q_seq_ite {p : Prop} [Decidable p] (a b : Out) (f : S → Out) : (if p then a else b).seq f = if p then a.seq f else b.seq f := by
  split <;> rfl
@[simp] theorem q_endD_ite {p : Prop} [Decidable p] (a b : Out) : endD (if p then a else b) = if p then endD a else endD b := by
  split <;> rfl
@[simp] theorem q_okOnly_ite {p : Prop} [Decidable p] (a b : Rs α) : okOnly (if p then a else b) = if p then okOnly a else okOnly b := by
  split <;> rfl
@[simp] theorem q_ofO_ite {p : Prop} [Decidable p] (a b : Option α) : ofO (if p then a else b) = if p then ofO a else ofO b := by
  split <;> rfl
@[simp] theorem q_e2 (f : D → D → Option D) (a b : Rs D) : e2 f a b = a.bind fun x => b.bind fun y => ofO (f x y) := rfl
@[simp] theorem q_e1 (f : D → Option D) (a : Rs D) : e1 f a = a.bind fun x => ofO (f x) := rfl
@[simp] theorem q_toB (b : Bool) : toB (.bl b) = .ok b := rfl
@[simp] theorem q_bAnd (a b : Rs Bool) : bAnd a b = a.bind fun x => if x = true then b else .ok false := rfl
@[simp] theorem q_bOr (a b : Rs Bool) : bOr a b = a.bind fun x => if x = true then .ok true else b := rfl
@[simp] theorem q_bNot (a : Rs Bool) : bNot a = a.bind fun x => .ok (!x) := rfl
@[simp] theorem q_tAndS (a b : S → Rs Bool) (s : S) : tAndS a b s = (a s).bind fun x => if x = true then b s else .ok false := rfl
@[simp] theorem q_tOrS (a b : S → Rs Bool) (s : S) : tOrS a b s = (a s).bind fun x => if x = true then .ok true else b s := rfl
@[simp] theorem q_tNotS (a : S → Rs Bool) (s : S) : tNotS a s = (a s).bind fun x => .ok (!x) := rfl
@[simp] theorem q_eIf (c : Rs Bool) (a b : Rs D) : eIf c a b = c.bind fun x => if x = true then a else b := rfl
@[simp] theorem q_aCons (a : Rs D) (as : Rs (List D)) : aCons a as = a.bind fun x => as.bind fun xs => .ok (x :: xs) := rfl
@[simp] theorem q_eTup (as : Rs (List D)) : eTup as = as.bind fun xs => if xs.length ≤ sizeLine then .ok (.tup xs) else .bad := rfl
@[simp] theorem q_nLst (as : Rs (List D)) : nLst as = as.bind fun xs => if xs.length ≤ sizeLine then .ok (.lst xs) else .bad := rfl
@[simp] theorem q_eCb (f : List D → Option D) (as : Rs (List D)) : eCb f as = as.bind fun xs => ofO (f xs) := rfl
@[simp] theorem q_nCb (f : List D → Option NO) (as : Rs (List D)) : nCb f as = as.bind fun xs => ofO (f xs) := rfl
@[simp] theorem q_eMb (T : String) (f : D → List D → Option D) (a : Rs D) (as : Rs (List D)) : eMb T f a as = a.bind fun x => if isT T x = true then as.bind fun xs => ofO (f x xs) else .bad := rfl
@[simp] theorem q_nMb (T : String) (f : D → List D → Option NO) (a : Rs D) (as : Rs (List D)) : nMb T f a as = a.bind fun x => if isT T x = true then as.bind fun xs => ofO (f x xs) else .bad := rfl
@[simp] theorem q_isT_str (x : Str) : isT "str" (.str x) = true := rfl
@[simp] theorem q_isT_lst (x : List D) : isT "list" (.lst x) = true := rfl
@[simp] theorem q_oPart (a : Rs D) : oPart a = a.bind fun x => match x with
  | .int i => .ok (some i)
  | _ => .bad := rfl
@[simp] theorem q_eSl (a : Rs D) (lo hi : Rs (Option Int)) : eSl a lo hi = a.bind fun x => lo.bind fun l => hi.bind fun h => ofO (dSl x l h) := rfl
@[simp] theorem q_iItems (r : Rs D) : iItems r = r.bind fun d => ofO (itemsD d) := rfl
@[simp] theorem q_iRg (f : List D → Option (List D)) (as : Rs (List D)) : iRg f as = as.bind fun xs => ofO (f xs) := rfl
@[simp] theorem q_sFor (it : Dv → Rs (List D)) (f : D → S → Option S) (body : S → Out) (s : S) : sFor it f body s = oX s (it (envB s)) fun ds => forL f body ds s := rfl
@[simp] theorem q_gN (i : Nat) (d : D) (s : S) : gN i d s = some (s.put i (.dat d)) := rfl
theorem q_forL_nil (f : D → S → Option S) (body : S → Out) (s : S) : forL f body [] s = .nx s := rfl
@[simp] theorem q_vAnd (a b : Rs D) : vAnd a b = a.bind fun x => match x with
  | .bl c => if c = true then b else .ok (.bl false)
  | _ => .bad := rfl
@[simp] theorem q_vOr (a b : Rs D) : vOr a b = a.bind fun x => match x with
  | .bl c => if c = true then .ok (.bl true) else b
  | _ => .bad := rfl
@[simp] theorem q_vNot (a : Rs D) : vNot a = a.bind fun x => match x with
  | .bl c => .ok (.bl (!c))
  | _ => .bad := rfl
@[simp] theorem q_eChain (f g : D → D → Option D) (a b c : Rs D) : eChain f g a b c = a.bind fun x => b.bind fun y => (ofO (f x y)).bind fun z => match z with
  | .bl k => if k = true then c.bind fun w => ofO (g y w) else .ok (.bl false)
  | _ => .bad := rfl
@[simp] theorem q_aStar (a : Rs D) (as : Rs (List D)) : aStar a as = a.bind fun x => (ofO (seqOf x)).bind fun ys => as.bind fun xs => .ok (ys ++ xs) := rfl
@[simp] theorem q_eCallN (n m : Nat) (f : List D → Rs D) (as bs : Rs (List D)) : eCallN n m f as bs = as.bind fun xs => bs.bind fun ys => if xs.length = n ∧ ys.length = m then f (xs ++ ys) else .bad := rfl
@[simp] theorem q_add_int (i j : Int) : dAdd (.int i) (.int j) = some (.int (i + j)) := rfl
@[simp] theorem q_add_str (a b : Str) : dAdd (.str a) (.str b) = if a.length + b.length ≤ sizeLine then some (.str (a ++ b)) else none := rfl
@[simp] theorem q_add_lst (a b : List D) : dAdd (.lst a) (.lst b) = if a.length + b.length ≤ sizeLine then some (.lst (a ++ b)) else none := rfl
@[simp] theorem q_sub_int (i j : Int) : dSub (.int i) (.int j) = some (.int (i - j)) := rfl
@[simp] theorem q_mul_int (i j : Int) : dMul (.int i) (.int j) = if CMulW i j then some (.int (i * j)) else none := rfl
@[simp] theorem q_mul_str (a : Str) (n : Int) : dMul (.str a) (.int n) = if MulOk a n then some (.str (Txt.mul a n)) else none := rfl
@[simp] theorem q_mod_int (i j : Int) : dMod (.int i) (.int j) = if 0 < j then some (.int (i % j)) else none := rfl
@[simp] theorem q_div_int (i j : Int) : dDiv (.int i) (.int j) = if CDivW i j then some (.int (i / j)) else none := rfl
@[simp] theorem q_lt (i j : Int) : dLt (.int i) (.int j) = some (.bl (decide (i < j))) := rfl
@[simp] theorem q_le (i j : Int) : dLe (.int i) (.int j) = some (.bl (decide (i ≤ j))) := rfl
@[simp] theorem q_gt (i j : Int) : dGt (.int i) (.int j) = some (.bl (decide (j < i))) := rfl
@[simp] theorem q_ge (i j : Int) : dGe (.int i) (.int j) = some (.bl (decide (j ≤ i))) := rfl
@[simp] theorem q_isN (d : D) : dIsN d .non = some (.bl (isNonD d)) := rfl
@[simp] theorem q_notN (d : D) : dNotN d .non = some (.bl (!isNonD d)) := rfl
@[simp] theorem q_isB (d : D) (b : Bool) : dIsB d (.bl b) = some (.bl (isBlD b d)) := rfl
@[simp] theorem q_notB (d : D) (b : Bool) : dNotB d (.bl b) = some (.bl (!isBlD b d)) := rfl
@[simp] theorem q_eq_str (a b : Str) : dEq (.str a) (.str b) = some (.bl (a == b)) := by
  simp [dEq, eqD, toP, okEq, PyData.plain, PyData.depth, PyData.eqv]
@[simp] theorem q_ne_str (a b : Str) : dNe (.str a) (.str b) = some (.bl (!(a == b))) := by
  simp [dNe, eqD, toP, okEq, PyData.plain, PyData.depth, PyData.eqv]
@[simp] theorem q_eq_int (a b : Int) : dEq (.int a) (.int b) = some (.bl (a == b)) := by
  simp [dEq, eqD, toP, okEq, PyData.plain, PyData.depth, PyData.eqv]
@[simp] theorem q_ne_int (a b : Int) : dNe (.int a) (.int b) = some (.bl (!(a == b))) := by
  simp [dNe, eqD, toP, okEq, PyData.plain, PyData.depth, PyData.eqv]
@[simp] theorem q_cInt_int (i : Int) : cInt [.int i] = some (.int i) := rfl
@[simp] theorem q_cInt_bl (k : Bool) : cInt [.bl k] = some (.int (if k then 1 else 0)) := rfl
@[simp] theorem q_cLen (d : D) : cLen [d] = (lenD d).map fun n => .int (n : Nat) := rfl
@[simp] theorem q_len_lst (xs : List D) : lenD (.lst xs) = some xs.length := rfl
@[simp] theorem q_len_tup (xs : List D) : lenD (.tup xs) = some xs.length := rfl
@[simp] theorem q_len_sq (xs : List Int) : lenD (.sq xs) = some xs.length := rfl
@[simp] theorem q_len_str (y : Str) : lenD (.str y) = if y.length ≤ sizeLine then some y.length else none := rfl
@[simp] theorem q_rng1 (j : Int) : rng1 [.int j] = if rgOk j = true then some (upTo 0 j.toNat) else none := (rfl)
@[simp] theorem q_rng2 (i j : Int) : rng2 [.int i, .int j] = if (rgOk i && rgOk j) = true then some (upTo i (j - i).toNat) else none := (rfl)
@[simp] theorem q_items_lst (xs : List D) : itemsD (.lst xs) = some xs := rfl
@[simp] theorem q_items_tup (xs : List D) : itemsD (.tup xs) = some xs := rfl
@[simp] theorem q_items_sq (xs : List Int) : itemsD (.sq xs) = some (xs.map .int) := rfl
@[simp] theorem q_items_str (z : Str) : itemsD (.str z) = some (z.cps.toList.map sign) := rfl
@[simp] theorem q_ix_lst (xs : List D) (i : Int) : dIx (.lst xs) (.int i) = atI xs i := rfl
@[simp] theorem q_ix_tup (xs : List D) (i : Int) : dIx (.tup xs) (.int i) = atI xs i := rfl
@[simp] theorem q_ix_str (z : Str) (i : Int) : dIx (.str z) (.int i) = if z.length ≤ sizeLine then (atI z.cps.toList i).map sign else none := rfl
@[simp] theorem q_ix_sq (xs : List Int) (i : Int) : dIx (.sq xs) (.int i) = (atI xs i).map .int := rfl
@[simp] theorem q_sApp (mo me : S → Rs Xv) (s : S) : sApp mo me s = oX s (mo s) fun c => match cellOf s c with
  | some (k, .lst xs) => oX s (me s) fun x => if xs.length < sizeLine then .nx (s.setCell k (.lst (xs ++ [x]))) else .bad
  | _ => .bad := rfl
@[simp] theorem q_cellOf (sl : List (Option Xv)) (ce : List (Option OO)) (k : Nat) : cellOf ⟨sl, ce⟩ (.cell k) = match ce[k]? with
  | some (some o) => some (k, o)
  | _ => none := rfl
end
end DL
set_option Elab.async false
set_option linter.all false
set_option maxRecDepth 100000
set_option maxHeartbeats 4000000
/-! The data layer, 17: loops by what they keep; more equations. -/
namespace DL
open PySem PySem.Spec PyProof.Rows L2
set_option autoImplicit false
def stepL {σ α β : Type} (step : σ → α → σ ⊕ β) : σ → List α → σ ⊕ β
  | st, [] => .inl st
  | st, a :: as => match step st a with
    | .inl st' => stepL step st' as
    | .inr b => .inr b
def nxOf : Out → Option S
  | .nx s => some s
  | .ct s => some s
  | _ => none
def stops : Out → Bool
  | .ret _ => true
  | .exc _ _ => true
  | .bad => true
  | .own _ _ => true
  | _ => false
/-- what is known behind a loop that may be left -/
def Left {σ β : Type} (Rel : σ → S → Prop) (Fin : β → Out → Prop) (o : Out) : σ ⊕ β → Prop
  | .inl st => ∃ s, o = .nx s ∧ Rel st s
  | .inr b => Fin b o
/-- .. behind one turn -/
def Turn {σ β : Type} (Rel : σ → S → Prop) (Fin : β → Out → Prop) (o : Out) : σ ⊕ β → Prop
  | .inl st => ∃ s, nxOf o = some s ∧ Rel st s
  | .inr b => stops o = true ∧ Fin b o
theorem forL_rel {α σ β : Type} {itm : α → D} {f : D → S → Option S} {body : S → Out} (Rel : σ → S → Prop) (Fin : β → Out → Prop) (step : σ → α → σ ⊕ β) :
    ∀ (as : List α) (st : σ) (s : S), (∀ a ∈ as, ∀ st s, Rel st s → ∃ s1, f (itm a) s = some s1 ∧ Turn Rel Fin (body s1) (step st a)) → Rel st s →
      Left Rel Fin (forL f body (as.map itm) s) (stepL step st as)
  | [], st, s, _, r => ⟨s, rfl, r⟩
  | a :: as, st, s, h, r => by
    obtain ⟨s1, e1, t⟩ := h a (List.mem_cons_self ..) st s r
    rw [List.map_cons]
    unfold forL stepL
    rw [e1]
    dsimp only
    cases hs : step st a with
    | inl st' =>
      rw [hs] at t
      obtain ⟨s2, e2, r2⟩ := t
      have ih := forL_rel Rel Fin step as st' s2 (fun a ha => h a (List.mem_cons_of_mem _ ha)) r2
      cases ho : body s1 with
      | nx s3 =>
        rw [ho] at e2
        cases e2
        exact ih
      | ct s3 =>
        rw [ho] at e2
        cases e2
        exact ih
      | _ =>
        rw [ho] at e2
        cases e2
    | inr b =>
      rw [hs] at t
      obtain ⟨e2, fb⟩ := t
      cases ho : body s1 with
      | nx s3 =>
        rw [ho] at e2
        cases e2
      | ct s3 =>
        rw [ho] at e2
        cases e2
      | bk s3 =>
        rw [ho] at e2
        cases e2
      | _ =>
        rw [ho] at fb
        exact fb
/-- a loop that is never left -/
theorem forL_all {α σ : Type} {itm : α → D} {f : D → S → Option S} {body : S → Out} (Rel : σ → S → Prop) (step : σ → α → σ) :
    ∀ (as : List α) (st : σ) (s : S), (∀ a ∈ as, ∀ st s, Rel st s → ∃ s1 s2, f (itm a) s = some s1 ∧ nxOf (body s1) = some s2 ∧ Rel (step st a) s2) → Rel st s →
      ∃ s', forL f body (as.map itm) s = .nx s' ∧ Rel (as.foldl step st) s'
  | [], st, s, _, r => ⟨s, rfl, r⟩
  | a :: as, st, s, h, r => by
    obtain ⟨s1, s2, e1, e2, r2⟩ := h a (List.mem_cons_self ..) st s r
    rw [List.map_cons]
    unfold forL
    rw [e1]
    dsimp only
    have ih := forL_all Rel step as (step st a) s2 (fun a ha => h a (List.mem_cons_of_mem _ ha)) r2
    cases ho : body s1 with
    | nx s3 =>
      rw [ho] at e2
      cases e2
      exact ih
    | ct s3 =>
      rw [ho] at e2
      cases e2
      exact ih
    | _ =>
      rw [ho] at e2
      cases e2
@[simp] theorem q_nxOf_nx (s : S) : nxOf (.nx s) = some s := rfl
@[simp] theorem q_nxOf_ct (s : S) : nxOf (.ct s) = some s := rfl
@[simp] theorem q_stops_ret (d : D) : stops (.ret d) = true := rfl
@[simp] theorem q_stops_exc (e : Xn) (s : S) : stops (.exc e s) = true := rfl
theorem upTo_cons (lo : Int) (m : Nat) : DL.upTo lo (m + 1) = .int lo :: DL.upTo (lo + 1) m := by
  unfold DL.upTo
  rw [List.range_succ_eq_map, List.map_cons, List.map_map]
  congr 1
  · simp
  · apply List.map_congr_left
    intro i _
    simp
    omega
theorem numD_nil (k : Int) : numD k [] = [] := rfl
theorem numD_cons (k : Int) (d : D) (ds : List D) : numD k (d :: ds) = .tup [.int k, d] :: numD (k + 1) ds := by
  unfold numD
  rw [List.length_cons, upTo_cons]
  rfl
theorem numD_zip (k : Int) (ds : List D) : numD k ds = (ds.zipIdx).map fun p => .tup [.int (k + (p.2 : Nat)), p.1] := by
  apply List.ext_getElem?
  intro i
  by_cases h : i < ds.length
  · rw [numD_get (List.getElem?_eq_getElem h)]
    simp [h]
  · have h1 : (numD k ds).length ≤ i := by rw [numD_len]; omega
    rw [List.getElem?_eq_none h1, List.getElem?_eq_none (by simp; omega)]
@[simp] theorem q_gTupD2 (f g : D → S → Option S) (a b : D) (s : S) : gTupD 2 (gsCons f (gsCons g gsNil)) (.tup [a, b]) s = (f a s).bind fun s1 => g b s1 := by
  simp only [gTupD, List.length_cons, List.length_nil, Nat.zero_add, if_true]
  show ((f a s).bind fun s => (g b s).bind (gsNil [])) = _
  cases f a s with
  | none => rfl
  | some s1 =>
    simp only [Option.bind_some]
    cases h : g b s1 with
    | none => rfl
    | some z => rfl
@[simp] theorem q_only_ok {α β : Type} (a : α) (f : α → Rs β) : (Rs.ok a).only f = f a := rfl
theorem lc_map {i : Nat} {e : Dv → Rs D} {δ : Dv} {g : D → D} : ∀ ds : List D, (∀ d ∈ ds, e (δ.set i (some d)) = .ok (g d)) → lcL (cN i) cTrue e δ ds = .ok (ds.map g)
  | [], _ => rfl
  | d :: ds, h => by
    unfold lcL
    have h1 := h d (List.mem_cons_self ..)
    have ih := lc_map ds fun d hd => h d (List.mem_cons_of_mem _ hd)
    simp only [cN, cTrue, Rs.only_ok, if_true, h1, ih, List.map_cons]
/-- .. over items of a form -/
theorem lc_mapA {α : Type} {i : Nat} {e : Dv → Rs D} {δ : Dv} {itm : α → D} {g : α → D} : ∀ as : List α, (∀ a ∈ as, e (δ.set i (some (itm a))) = .ok (g a)) → lcL (cN i) cTrue e δ (as.map itm) = .ok (as.map g)
  | [], _ => rfl
  | d :: ds, h => by
    rw [List.map_cons]
    unfold lcL
    have h1 := h d (List.mem_cons_self ..)
    have ih := lc_mapA ds fun d hd => h d (List.mem_cons_of_mem _ hd)
    simp only [cN, cTrue, Rs.only_ok, if_true, h1, ih, List.map_cons]
/-- .. any target -/
theorem lc_mapF {α : Type} {f : D → Dv → Option Dv} {e : Dv → Rs D} {δ : Dv} {itm : α → D} {g : α → D} : ∀ as : List α, (∀ a ∈ as, ∃ δ', f (itm a) δ = some δ' ∧ e δ' = .ok (g a)) → lcL f cTrue e δ (as.map itm) = .ok (as.map g)
  | [], _ => rfl
  | d :: ds, h => by
    rw [List.map_cons]
    unfold lcL
    obtain ⟨δ', h0, h1⟩ := h d (List.mem_cons_self ..)
    have ih := lc_mapF ds fun d hd => h d (List.mem_cons_of_mem _ hd)
    simp only [h0, cTrue, Rs.only_ok, if_true, h1, ih, List.map_cons]
theorem q_eLc (vs : List Nat) (f : D → Dv → Option Dv) (p : Dv → Rs Bool) (e : Dv → Rs D) (δ : Dv) (it : Rs (List D)) : eLc vs f p e δ it = it.bind fun ds => if ds.length ≤ sizeLine then (lcL f p e (wipeE δ vs) ds).only fun r => .ok (.lst r) else .bad := rfl
@[simp] theorem q_fmt_str (y : Str) : fmtD (.str y) = if y.length ≤ sizeLine then some (.str y) else none := rfl
@[simp] theorem q_fmt_int (i : Int) : fmtD (.int i) = if i.natAbs.log2 < 1920 then some (.str (toString i)) else none := rfl
@[simp] theorem q_tyN_str (x : Str) : tyN (.str x) = some "str" := rfl
@[simp] theorem q_dFld (C : Addr) (f : Str) (gs : List (Str × D)) : dFld C f (.ins C gs) = gs.lookup f := by
  show (if C = C then gs.lookup f else none) = _
  rw [if_pos rfl]
@[simp] theorem q_eMake (C : Addr) (f : List D → Rs (List (Str × D))) (as : Rs (List D)) : eMake C f as = as.bind fun xs => (f xs).bind fun gs => .ok (.ins C gs) := rfl
@[simp] theorem q_sRaise (C : Addr) (fs : List Str) (m : Dv → Rs (List D)) (s : S) : sRaise C fs m s = oX s (m (envB s)) fun ds => if ds.length = fs.length ∧ ds.length ≤ 1000 then .exc ⟨C, (fs.zip ds).reverse⟩ s else .bad := rfl
@[simp] theorem q_only_bad {α β : Type} (f : α → Rs β) : (Rs.bad : Rs α).only f = .bad := rfl
theorem rg_small {n : Nat} (h : n ≤ 1000000) : rgOk (n : Int) = true := by
  unfold rgOk
  simp
  omega
theorem allDat_dat : ∀ ds : List D, allDat (ds.map .dat) = some ds
  | [] => rfl
  | d :: ds => by
    rw [List.map_cons]
    unfold allDat
    rw [allDat_dat ds]
    rfl
theorem sFrz_lst {sl : List (Option Xv)} {ce : List (Option OO)} {i k : Nat} {ds : List D} (h1 : sl[i]? = some (some (.cell k))) (h2 : ce[k]? = some (some (.lst (ds.map .dat)))) :
    sFrz i ⟨sl, ce⟩ = .nx ⟨sl.map fun o => o.map (subX k (.lst ds)), cutK k (ce.map fun o => o.map (subO k (.lst ds)))⟩ := by
  unfold sFrz frzK
  dsimp only
  rw [h1]
  dsimp only
  rw [h2]
  dsimp only
  rw [allDat_dat]
  rfl
theorem zip_keys : ∀ ds : List (Key × D), (ds.map (·.1)).zip (ds.map (·.2)) = ds
  | [] => rfl
  | d :: ds => by
    rw [List.map_cons, List.map_cons, List.zip_cons_cons, zip_keys ds]
theorem sFrz_dic {sl : List (Option Xv)} {ce : List (Option OO)} {i k : Nat} {ds : List (Key × D)} (h1 : sl[i]? = some (some (.cell k))) (h2 : ce[k]? = some (some (.dic (ds.map fun p => (p.1, .dat p.2))))) :
    sFrz i ⟨sl, ce⟩ = .nx ⟨sl.map fun o => o.map (subX k (.dic ds)), cutK k (ce.map fun o => o.map (subO k (.dic ds)))⟩ := by
  have e1 : (ds.map fun p : Key × D => (p.1, Xv.dat p.2)).map (·.2) = (ds.map (·.2)).map Xv.dat := by simp [List.map_map, Function.comp_def]
  have e2 : (ds.map fun p : Key × D => (p.1, Xv.dat p.2)).map (·.1) = ds.map (·.1) := by simp [List.map_map, Function.comp_def]
  unfold sFrz frzK
  dsimp only
  rw [h1]
  dsimp only
  rw [h2]
  dsimp only
  rw [e1, e2, allDat_dat]
  dsimp only [Option.map_some]
  rw [zip_keys]
/-- a name that holds no cell -/
theorem sFrz_dat {sl : List (Option Xv)} {ce : List (Option OO)} {i : Nat} {d : D} (h1 : sl[i]? = some (some (.dat d))) : sFrz i ⟨sl, ce⟩ = .nx ⟨sl, ce⟩ := by
  unfold sFrz
  dsimp only
  rw [h1]
@[simp] theorem q_subX_dat (k : Nat) (d e : D) : subX k d (.dat e) = .dat e := rfl
@[simp] theorem q_subX_cell (k : Nat) (d : D) (j : Nat) : subX k d (.cell j) = if j = k then .dat d else .cell j := rfl
@[simp] theorem q_subO_set (k : Nat) (d : D) (ks : List Key) : subO k d (.kset ks) = .kset ks := rfl
theorem subO_lst (k : Nat) (d : D) (ds : List D) : subO k d (.lst (ds.map .dat)) = .lst (ds.map .dat) := by
  show OO.lst ((ds.map Xv.dat).map (subX k d)) = _
  rw [List.map_map]
  rfl
theorem subO_dic (k : Nat) (d : D) (ds : List (Key × D)) : subO k d (.dic (ds.map fun p => (p.1, .dat p.2))) = .dic (ds.map fun p => (p.1, .dat p.2)) := by
  show OO.dic ((ds.map fun p : Key × D => (p.1, Xv.dat p.2)).map fun p => (p.1, subX k d p.2)) = _
  rw [List.map_map]
  rfl
@[simp] theorem q_subO_ins0 (k : Nat) (d : D) (c : Addr) : subO k d (.ins c []) = .ins c [] := rfl
/-- put at the end of a dict -/
theorem putX_new {ks : List (Key × D)} {k : Key} {d : D} (h : (ks.any fun kv => decide (kv.1 = k)) = false) : putX (ks.map fun p => (p.1, .dat p.2)) k (.dat d) = (ks ++ [(k, d)]).map fun p => (p.1, .dat p.2) := by
  unfold putX
  have h1 : ((ks.map fun p : Key × D => (p.1, Xv.dat p.2)).any fun kv => decide (kv.1 = k)) = false := by
    rw [List.any_map, ← h]
    rfl
  rw [h1]
  simp
@[simp] theorem q_cTuple_lst (xs : List D) : cTuple [.lst xs] = some (.tup xs) := rfl
@[simp] theorem q_cTuple_tup (xs : List D) : cTuple [.tup xs] = some (.tup xs) := rfl
theorem str_ext {a b : Str} (h : a.cps.toList = b.cps.toList) : a = b := by
  cases a
  cases b
  simpa using h
theorem app_list (a b : Str) : (a ++ b).cps.toList = a.cps.toList ++ b.cps.toList := by
  show (a.cps ++ b.cps).toList = _
  simp
theorem len_app (a b : Str) : (a ++ b).length = a.length + b.length := by
  show (a.cps ++ b.cps).size = a.cps.size + b.cps.size
  exact Array.size_append
theorem app_assoc (a b c : Str) : a ++ b ++ c = a ++ (b ++ c) := str_ext (by rw [app_list, app_list, app_list, app_list, List.append_assoc])
theorem app_nil (a : Str) : a ++ ("" : Str) = a := str_ext (by rw [app_list]; simp; rfl)
theorem nil_app (a : Str) : ("" : Str) ++ a = a := str_ext (by rw [app_list]; rfl)
@[simp] theorem q_jn_nil (acc : Str) : jn [] acc = .ok (.str acc) := rfl
@[simp] theorem q_jn_cons (r : Rs D) (rs : List (Rs D)) (acc : Str) : jn (r :: rs) acc = r.bind fun d => match d with
    | .str y => if (acc ++ y).length ≤ sizeLine then jn rs (acc ++ y) else .bad
    | _ => .bad := rfl
/-! ### a block, statement by statement -/
theorem seq_nx {m1 m2 : S → Out} {s s' : S} (h : m1 s = .nx s') : sSeq m1 m2 s = m2 s' := by
  rw [q_sSeq, h, q_seq_nx]
theorem seq_ret {m1 m2 : S → Out} {s : S} {d : D} (h : m1 s = .ret d) : sSeq m1 m2 s = .ret d := by
  rw [q_sSeq, h, q_seq_ret]
theorem seq_exc {m1 m2 : S → Out} {s s' : S} {e : Xn} (h : m1 s = .exc e s') : sSeq m1 m2 s = .exc e s' := by
  rw [q_sSeq, h, q_seq_exc]
theorem if_no {c : S → Rs Bool} {a b : S → Out} {s : S} (h : c s = .ok false) : sIf c a b s = b s := by
  rw [q_sIf, h, q_oX_ok, if_neg (by simp)]
theorem if_yes {c : S → Rs Bool} {a b : S → Out} {s : S} (h : c s = .ok true) : sIf c a b s = a s := by
  rw [q_sIf, h, q_oX_ok, if_pos rfl]
theorem seq_skip {c : S → Rs Bool} {a m2 : S → Out} {s : S} (h : c s = .ok false) : sSeq (sIf c a sNil) m2 s = m2 s := seq_nx (if_no h)
theorem seq_yes {c : S → Rs Bool} {a b m2 : S → Out} {s : S} (h : c s = .ok true) : sSeq (sIf c a b) m2 s = sSeq a m2 s := by
  rw [q_sSeq, if_yes h, q_sSeq]
theorem set_is {i : Nat} {m : S → Rs Xv} {s : S} {x : Xv} (h : m s = .ok x) : sSet i m s = .nx (s.put i x) := by
  rw [q_sSet, h, q_oX_ok]
theorem ret_is {m : S → Rs D} {s : S} {d : D} (h : m s = .ok d) : sRet m s = .ret d := by
  rw [q_sRet, h, q_oX_ok]
/-! ### isinstance -/
@[simp] theorem q_isB_int_non  : isB "int" .non = some false := (rfl)
@[simp] theorem q_isB_int_bl (b : Bool) : isB "int" (.bl b) = some true := (rfl)
@[simp] theorem q_isB_int_int (i : Int) : isB "int" (.int i) = some true := (rfl)
@[simp] theorem q_isB_int_str (x : Str) : isB "int" (.str x) = some false := (rfl)
@[simp] theorem q_isB_int_lst (xs : List D) : isB "int" (.lst xs) = some false := (rfl)
@[simp] theorem q_isB_int_tup (xs : List D) : isB "int" (.tup xs) = some false := (rfl)
@[simp] theorem q_isB_int_dic (kvs : List (Key × D)) : isB "int" (.dic kvs) = some false := (rfl)
@[simp] theorem q_isB_int_sq (ns : List Int) : isB "int" (.sq ns) = some false := (rfl)
@[simp] theorem q_isB_str_non  : isB "str" .non = some false := (rfl)
@[simp] theorem q_isB_str_bl (b : Bool) : isB "str" (.bl b) = some false := (rfl)
@[simp] theorem q_isB_str_int (i : Int) : isB "str" (.int i) = some false := (rfl)
@[simp] theorem q_isB_str_str (x : Str) : isB "str" (.str x) = some true := (rfl)
@[simp] theorem q_isB_str_lst (xs : List D) : isB "str" (.lst xs) = some false := (rfl)
@[simp] theorem q_isB_str_tup (xs : List D) : isB "str" (.tup xs) = some false := (rfl)
@[simp] theorem q_isB_str_dic (kvs : List (Key × D)) : isB "str" (.dic kvs) = some false := (rfl)
@[simp] theorem q_isB_str_sq (ns : List Int) : isB "str" (.sq ns) = some false := (rfl)
@[simp] theorem q_isB_bool_non  : isB "bool" .non = some false := (rfl)
@[simp] theorem q_isB_bool_bl (b : Bool) : isB "bool" (.bl b) = some true := (rfl)
@[simp] theorem q_isB_bool_int (i : Int) : isB "bool" (.int i) = some false := (rfl)
@[simp] theorem q_isB_bool_str (x : Str) : isB "bool" (.str x) = some false := (rfl)
@[simp] theorem q_isB_bool_lst (xs : List D) : isB "bool" (.lst xs) = some false := (rfl)
@[simp] theorem q_isB_bool_tup (xs : List D) : isB "bool" (.tup xs) = some false := (rfl)
@[simp] theorem q_isB_bool_dic (kvs : List (Key × D)) : isB "bool" (.dic kvs) = some false := (rfl)
@[simp] theorem q_isB_bool_sq (ns : List Int) : isB "bool" (.sq ns) = some false := (rfl)
@[simp] theorem q_isB_list_non  : isB "list" .non = some false := (rfl)
@[simp] theorem q_isB_list_bl (b : Bool) : isB "list" (.bl b) = some false := (rfl)
@[simp] theorem q_isB_list_int (i : Int) : isB "list" (.int i) = some false := (rfl)
@[simp] theorem q_isB_list_str (x : Str) : isB "list" (.str x) = some false := (rfl)
@[simp] theorem q_isB_list_lst (xs : List D) : isB "list" (.lst xs) = some true := (rfl)
@[simp] theorem q_isB_list_tup (xs : List D) : isB "list" (.tup xs) = some false := (rfl)
@[simp] theorem q_isB_list_dic (kvs : List (Key × D)) : isB "list" (.dic kvs) = some false := (rfl)
@[simp] theorem q_isB_list_sq (ns : List Int) : isB "list" (.sq ns) = some true := (rfl)
@[simp] theorem q_isB_tuple_non  : isB "tuple" .non = some false := (rfl)
@[simp] theorem q_isB_tuple_bl (b : Bool) : isB "tuple" (.bl b) = some false := (rfl)
@[simp] theorem q_isB_tuple_int (i : Int) : isB "tuple" (.int i) = some false := (rfl)
@[simp] theorem q_isB_tuple_str (x : Str) : isB "tuple" (.str x) = some false := (rfl)
@[simp] theorem q_isB_tuple_lst (xs : List D) : isB "tuple" (.lst xs) = some false := (rfl)
@[simp] theorem q_isB_tuple_tup (xs : List D) : isB "tuple" (.tup xs) = some true := (rfl)
@[simp] theorem q_isB_tuple_dic (kvs : List (Key × D)) : isB "tuple" (.dic kvs) = some false := (rfl)
@[simp] theorem q_isB_tuple_sq (ns : List Int) : isB "tuple" (.sq ns) = some false := (rfl)
@[simp] theorem q_isB_dict_non  : isB "dict" .non = some false := (rfl)
@[simp] theorem q_isB_dict_bl (b : Bool) : isB "dict" (.bl b) = some false := (rfl)
@[simp] theorem q_isB_dict_int (i : Int) : isB "dict" (.int i) = some false := (rfl)
@[simp] theorem q_isB_dict_str (x : Str) : isB "dict" (.str x) = some false := (rfl)
@[simp] theorem q_isB_dict_lst (xs : List D) : isB "dict" (.lst xs) = some false := (rfl)
@[simp] theorem q_isB_dict_tup (xs : List D) : isB "dict" (.tup xs) = some false := (rfl)
@[simp] theorem q_isB_dict_dic (kvs : List (Key × D)) : isB "dict" (.dic kvs) = some true := (rfl)
@[simp] theorem q_isB_dict_sq (ns : List Int) : isB "dict" (.sq ns) = some false := (rfl)
@[simp] theorem q_is2_non  : is2 "list" "tuple" .non = some false := (rfl)
@[simp] theorem q_is2_bl (b : Bool) : is2 "list" "tuple" (.bl b) = some false := (rfl)
@[simp] theorem q_is2_int (i : Int) : is2 "list" "tuple" (.int i) = some false := (rfl)
@[simp] theorem q_is2_str (x : Str) : is2 "list" "tuple" (.str x) = some false := (rfl)
@[simp] theorem q_is2_lst (xs : List D) : is2 "list" "tuple" (.lst xs) = some true := (rfl)
@[simp] theorem q_is2_tup (xs : List D) : is2 "list" "tuple" (.tup xs) = some true := (rfl)
@[simp] theorem q_is2_dic (kvs : List (Key × D)) : is2 "list" "tuple" (.dic kvs) = some false := (rfl)
@[simp] theorem q_is2_sq (ns : List Int) : is2 "list" "tuple" (.sq ns) = some true := (rfl)
@[simp] theorem q_bOf (f : D → Option Bool) (d : D) : bOf f d = (f d).map .bl := (rfl)
@[simp] theorem q_isC_ins (C : Addr) (fs : List (Str × D)) : isC C (.ins C fs) = some true := by
  show (if C = C then some true else none) = _
  rw [if_pos rfl]
@[simp] theorem q_isC_non (C : Addr) : isC C .non = some false := rfl
@[simp] theorem q_isN_non : isNonD .non = true := rfl
@[simp] theorem q_isN_bl (b : Bool) : isNonD (.bl b) = false := rfl
@[simp] theorem q_isN_int (i : Int) : isNonD (.int i) = false := rfl
@[simp] theorem q_isN_str (x : Str) : isNonD (.str x) = false := rfl
@[simp] theorem q_isN_lst (xs : List D) : isNonD (.lst xs) = false := rfl
@[simp] theorem q_isN_tup (xs : List D) : isNonD (.tup xs) = false := rfl
@[simp] theorem q_isN_ins (C : Addr) (fs : List (Str × D)) : isNonD (.ins C fs) = false := rfl
end DL
set_option Elab.async false
set_option linter.all false
set_option maxRecDepth 100000
set_option maxHeartbeats 4000000
/-! The data layer, 18: equality of data. -/
namespace DL
open PySem PySem.Spec PyProof.Rows L2
set_option autoImplicit false
/-- plain data of at most this many levels -/
def plD : Nat → D → Bool
  | _, .non => true
  | _, .bl _ => true
  | _, .int _ => true
  | _, .str _ => true
  | n + 1, .lst xs => xs.all (plD n)
  | n + 1, .tup xs => xs.all (plD n)
  | _, _ => false
def pyOf : D → PyData
  | .non => .none
  | .bl b => .bool b
  | .int i => .int i
  | .str x => .str x
  | _ => .none
theorem plD_ok : ∀ (n : Nat) (d : D), plD n d = true → ∃ p, toP d = some p ∧ p.plain = true ∧ p.depth ≤ n
  | _, .non, _ => ⟨.none, rfl, rfl, Nat.zero_le _⟩
  | _, .bl b, _ => ⟨.bool b, rfl, rfl, Nat.zero_le _⟩
  | _, .int i, _ => ⟨.int i, rfl, rfl, Nat.zero_le _⟩
  | _, .str x, _ => ⟨.str x, rfl, rfl, Nat.zero_le _⟩
  | 0, .lst xs, h => by cases h
  | 0, .tup xs, h => by cases h
  | n + 1, .lst xs, h => by
    have h : xs.all (plD n) = true := h
    have key : ∀ ys : List D, ys.all (plD n) = true → ∃ ps, toPs ys = some ps ∧ PyData.plainAll ps = true ∧ PyData.depthAll ps ≤ n := by
      intro ys
      induction ys with
      | nil => exact fun _ => ⟨[], rfl, rfl, Nat.zero_le _⟩
      | cons y ys ih =>
        intro hy
        rw [List.all_cons, Bool.and_eq_true] at hy
        obtain ⟨p, a1, a2, a3⟩ := plD_ok n y hy.1
        obtain ⟨ps, b1, b2, b3⟩ := ih hy.2
        refine ⟨p :: ps, ?_, ?_, ?_⟩
        · unfold toPs
          rw [a1, b1]
        · unfold PyData.plainAll
          rw [a2, b2]
          rfl
        · unfold PyData.depthAll
          omega
    obtain ⟨ps, b1, b2, b3⟩ := key xs h
    refine ⟨.list ps, ?_, b2, ?_⟩
    · unfold toP
      rw [b1]
      rfl
    · unfold PyData.depth
      omega
  | n + 1, .tup xs, h => by
    have h : xs.all (plD n) = true := h
    have key : ∀ ys : List D, ys.all (plD n) = true → ∃ ps, toPs ys = some ps ∧ PyData.plainAll ps = true ∧ PyData.depthAll ps ≤ n := by
      intro ys
      induction ys with
      | nil => exact fun _ => ⟨[], rfl, rfl, Nat.zero_le _⟩
      | cons y ys ih =>
        intro hy
        rw [List.all_cons, Bool.and_eq_true] at hy
        obtain ⟨p, a1, a2, a3⟩ := plD_ok n y hy.1
        obtain ⟨ps, b1, b2, b3⟩ := ih hy.2
        refine ⟨p :: ps, ?_, ?_, ?_⟩
        · unfold toPs
          rw [a1, b1]
        · unfold PyData.plainAll
          rw [a2, b2]
          rfl
        · unfold PyData.depthAll
          omega
    obtain ⟨ps, b1, b2, b3⟩ := key xs h
    refine ⟨.tuple ps, ?_, b2, ?_⟩
    · unfold toP
      rw [b1]
      rfl
    · unfold PyData.depth
      omega
  | 0, .ins _ _, h => by cases h
  | 0, .dic _, h => by cases h
  | 0, .sq _, h => by cases h
  | 0, .exn _ _ _, h => by cases h
  | _ + 1, .ins _ _, h => by cases h
  | _ + 1, .dic _, h => by cases h
  | _ + 1, .sq _, h => by cases h
  | _ + 1, .exn _ _ _, h => by cases h
theorem dEq_self {n : Nat} {d : D} (hn : n ≤ 64) (h : plD n d = true) : dEq d d = some (.bl true) := by
  obtain ⟨p, h1, h2, h3⟩ := plD_ok n d h
  have e : okEq p p = true := by
    unfold okEq
    rw [h2]
    simp
    omega
  unfold dEq eqD
  rw [h1]
  dsimp only
  rw [if_pos e, PySem.SeqAt.eqv_refl_plain p h2]
  rfl
theorem dNe_self {n : Nat} {d : D} (hn : n ≤ 64) (h : plD n d = true) : dNe d d = some (.bl false) := by
  have e := dEq_self hn h
  unfold dEq at e
  unfold dNe
  cases q : eqD d d with
  | none =>
    rw [q] at e
    cases e
  | some b =>
    rw [q] at e
    cases e
    rfl
end DL
set_option Elab.async false
set_option linter.all false
set_option maxRecDepth 100000
set_option maxHeartbeats 4000000
/-! The data layer, 19: loops by their place. -/
namespace DL
open PySem PySem.Spec PyProof.Rows L2
set_option autoImplicit false
/-- over a range, by an invariant of the place -/
theorem forL_upTo {f : D → S → Option S} {body : S → Out} {lo : Int} (Inv : Nat → S → Prop) : ∀ (n i : Nat) (s : S), (∀ j s, i ≤ j → j < i + n → Inv j s → ∃ s1 s2, f (.int (lo + (j : Nat))) s = some s1 ∧ nxOf (body s1) = some s2 ∧ Inv (j + 1) s2) → Inv i s →
    ∃ s', forL f body (DL.upTo (lo + (i : Nat)) n) s = .nx s' ∧ Inv (i + n) s'
  | 0, i, s, _, r => ⟨s, rfl, r⟩
  | n + 1, i, s, h, r => by
    obtain ⟨s1, s2, e1, e2, r2⟩ := h i s (Nat.le_refl _) (by omega) r
    obtain ⟨s', e, r'⟩ := forL_upTo Inv n (i + 1) s2 (fun j s a b => h j s (by omega) (by omega)) r2
    have en : i + (n + 1) = i + 1 + n := by omega
    rw [en]
    refine ⟨s', ?_, r'⟩
    rw [upTo_cons]
    unfold forL
    rw [e1]
    dsimp only
    have e3 : lo + (i : Nat) + 1 = lo + ((i + 1 : Nat) : Int) := by omega
    rw [e3]
    cases ho : body s1 with
    | nx s3 =>
      rw [ho] at e2
      cases e2
      exact e
    | ct s3 =>
      rw [ho] at e2
      cases e2
      exact e
    | _ =>
      rw [ho] at e2
      cases e2
theorem forL_range {f : D → S → Option S} {body : S → Out} (Inv : Nat → S → Prop) (n : Nat) (s : S) (h : ∀ j s, j < n → Inv j s → ∃ s1 s2, f (.int (j : Nat)) s = some s1 ∧ nxOf (body s1) = some s2 ∧ Inv (j + 1) s2) (r : Inv 0 s) :
    ∃ s', forL f body (DL.upTo 0 n) s = .nx s' ∧ Inv n s' := by
  obtain ⟨s', e, r'⟩ := forL_upTo (f := f) (body := body) (lo := 0) Inv n 0 s (fun j s _ b hi => by
    have := h j s (by omega) hi
    rwa [show (0 : Int) + ((j : Nat) : Int) = ((j : Nat) : Int) by omega]) r
  rw [Nat.zero_add] at r'
  exact ⟨s', e, r'⟩
/-- over items, by an invariant of the place -/
theorem forL_items {α : Type} {itm : α → D} {f : D → S → Option S} {body : S → Out} (Inv : Nat → S → Prop) (as : List α) : ∀ (rest : List α) (i : Nat) (s : S), as.drop i = rest → (∀ j a s, as[j]? = some a → Inv j s → ∃ s1 s2, f (itm a) s = some s1 ∧ nxOf (body s1) = some s2 ∧ Inv (j + 1) s2) → Inv i s →
    ∃ s', forL f body (rest.map itm) s = .nx s' ∧ Inv (i + rest.length) s'
  | [], i, s, _, _, r => ⟨s, rfl, r⟩
  | a :: rest, i, s, hd, h, r => by
    have ha : as[i]? = some a := by
      have := congrArg List.head? hd
      rwa [List.head?_drop] at this
    obtain ⟨s1, s2, e1, e2, r2⟩ := h i a s ha r
    obtain ⟨s', e, r'⟩ := forL_items Inv as rest (i + 1) s2 (by rw [← List.tail_drop, hd]; rfl) h r2
    rw [List.length_cons]
    have en : i + (rest.length + 1) = i + 1 + rest.length := by omega
    rw [en]
    refine ⟨s', ?_, r'⟩
    rw [List.map_cons]
    unfold forL
    rw [e1]
    dsimp only
    cases ho : body s1 with
    | nx s3 =>
      rw [ho] at e2
      cases e2
      exact e
    | ct s3 =>
      rw [ho] at e2
      cases e2
      exact e
    | _ =>
      rw [ho] at e2
      cases e2
end DL
set_option Elab.async false
set_option linter.all false
set_option maxRecDepth 100000
set_option maxHeartbeats 4000000
namespace LK
open PySem PySem.Spec PyProof.Rows L2 DL
set_option autoImplicit false
def top (i : Nat) : Stmt := PySem.Challenge.pw_stampsheets_k82_stock_and_box_notes.main.body.getD i (.Pass ⟨0, 0, 0, 0⟩)
/-- where the classes stand -/
structure Ad where
  StampError : Addr
  BadName : Addr
  BadStamp : Addr
  NameTaken : Addr
  UnknownName : Addr
  BadNote : Addr
  BadClaimText : Addr
  Stock : Addr
  Box : Addr
/-! ### places, scopes, mirrors -/
abbrev s_number_in : Stmt := top 29
theorem sc_number_in : FnScope ["text", "longest", "sign"] ["text", "longest"] (defScope s_number_in) := ⟨rfl, rfl, rfl, by decide +kernel, rfl, by decide +kernel, by decide +kernel⟩
def lb_number_in_1 (c : Ad) : S → Out :=
  (sIf (tBs fun δ => ((e2 dNotIn (eVar 2 δ) (Rs.ok (.str "0123456789"))).bind toB)) (sRet (rB fun δ => (Rs.ok .non))) sNil)
def lp_number_in_1 (c : Ad) : S → Out := sFor (fun δ => (iItems (eVar 0 δ))) (gN 2) (lb_number_in_1 c)
def mm_number_in (c : Ad) : S → Out :=
  (sSeq (sIf (tBs fun δ => (bNot ((eChain dLe dLe (Rs.ok (.int 1)) (eCb cLen (aCons (eVar 0 δ) (Rs.ok []))) (eVar 1 δ)).bind toB))) (sRet (rB fun δ => (Rs.ok .non))) sNil) (sSeq (lp_number_in_1 c) (sSeq (sIf (tBs fun δ => (bAnd ((e2 dEq (e2 dIx (eVar 0 δ) (Rs.ok (.int 0))) (Rs.ok (.str "0"))).bind toB) ((e2 dGt (eCb cLen (aCons (eVar 0 δ) (Rs.ok []))) (Rs.ok (.int 1))).bind toB))) (sRet (rB fun δ => (Rs.ok .non))) sNil) (sRet (rB fun δ => (eCb cInt (aCons (eVar 0 δ) (Rs.ok []))))))))
def m_number_in (c : Ad) : List D → Rs D := fnD 3 2 (mm_number_in c)
abbrev s_size_in : Stmt := top 30
theorem sc_size_in : FnScope ["line", "size"] ["line"] (defScope s_size_in) := ⟨rfl, rfl, rfl, by decide +kernel, rfl, by decide +kernel, by decide +kernel⟩
def mm_size_in (c : Ad) : S → Out :=
  (sSeq (sIf (tBs fun δ => (bNot ((eMb "str" mStarts (eVar 0 δ) (aCons (Rs.ok (.str "stock ")) (Rs.ok []))).bind toB))) (sRet (rB fun δ => (Rs.ok .non))) sNil) (sSeq (sSet 1 (xB fun δ => ((aCons (eSl (eVar 0 δ) (oPart (eCb cLen (aCons (Rs.ok (.str "stock ")) (Rs.ok [])))) (Rs.ok none)) (aCons (Rs.ok (.int 2)) (Rs.ok []))).bind (m_number_in c)))) (sSeq (sIf (tBs fun δ => (bOr ((e2 dIsN (eVar 1 δ) (Rs.ok .non)).bind toB) (bNot ((eChain dLe dLe (Rs.ok (.int 1)) (eVar 1 δ) (Rs.ok (.int 30))).bind toB)))) (sRet (rB fun δ => (Rs.ok .non))) sNil) (sRet (rB fun δ => (eVar 1 δ))))))
def m_size_in (c : Ad) : List D → Rs D := fnD 2 1 (mm_size_in c)
abbrev s_BadNote___init__ : Stmt := inClass (top 8) 0
theorem sc_BadNote___init__ : FnScope ["self", "line"] ["self", "line"] (defScope s_BadNote___init__) := ⟨rfl, rfl, rfl, by decide +kernel, rfl, by decide +kernel, by decide +kernel⟩
abbrev s_is_name : Stmt := top 20
theorem sc_is_name : FnScope ["value", "sign"] ["value"] (defScope s_is_name) := ⟨rfl, rfl, rfl, by decide +kernel, rfl, by decide +kernel, by decide +kernel⟩
def lb_is_name_1 (c : Ad) : S → Out :=
  (sIf (tBs fun δ => (bAnd ((e2 dNotIn (eVar 1 δ) (Rs.ok (.str "abcdefghijklmnopqrstuvwxyz"))).bind toB) ((e2 dNotIn (eVar 1 δ) (Rs.ok (.str "0123456789"))).bind toB))) (sRet (rB fun δ => (Rs.ok (.bl false)))) sNil)
def lp_is_name_1 (c : Ad) : S → Out := sFor (fun δ => (iItems (eVar 0 δ))) (gN 1) (lb_is_name_1 c)
def mm_is_name (c : Ad) : S → Out :=
  (sSeq (sIf (tBs fun δ => (bNot ((e1 (bOf (isB "str")) (eVar 0 δ)).bind toB))) (sRet (rB fun δ => (Rs.ok (.bl false)))) sNil) (sSeq (sIf (tBs fun δ => (bOr (bNot ((eChain dLe dLe (Rs.ok (.int 1)) (eCb cLen (aCons (eVar 0 δ) (Rs.ok []))) (Rs.ok (.int 8))).bind toB)) ((e2 dNotIn (e2 dIx (eVar 0 δ) (Rs.ok (.int 0))) (Rs.ok (.str "abcdefghijklmnopqrstuvwxyz"))).bind toB))) (sRet (rB fun δ => (Rs.ok (.bl false)))) sNil) (sSeq (lp_is_name_1 c) (sRet (rB fun δ => (Rs.ok (.bl true)))))))
def m_is_name (c : Ad) : List D → Rs D := fnD 2 1 (mm_is_name c)
abbrev s_is_layer : Stmt := top 13
theorem sc_is_layer : FnScope ["value", "sign"] ["value"] (defScope s_is_layer) := ⟨rfl, rfl, rfl, by decide +kernel, rfl, by decide +kernel, by decide +kernel⟩
def lb_is_layer_1 (c : Ad) : S → Out :=
  (sIf (tBs fun δ => ((e2 dNotIn (eVar 1 δ) (Rs.ok (.str "-.abcdefghijklmnopqrstuvwxyz"))).bind toB)) (sRet (rB fun δ => (Rs.ok (.bl false)))) sNil)
def lp_is_layer_1 (c : Ad) : S → Out := sFor (fun δ => (iItems (eVar 0 δ))) (gN 1) (lb_is_layer_1 c)
def mm_is_layer (c : Ad) : S → Out :=
  (sSeq (sIf (tBs fun δ => (bNot ((e1 (bOf (isB "str")) (eVar 0 δ)).bind toB))) (sRet (rB fun δ => (Rs.ok (.bl false)))) sNil) (sSeq (sIf (tBs fun δ => (bNot ((eChain dLe dLe (Rs.ok (.int 1)) (eCb cLen (aCons (eVar 0 δ) (Rs.ok []))) (Rs.ok (.int 30))).bind toB))) (sRet (rB fun δ => (Rs.ok (.bl false)))) sNil) (sSeq (lp_is_layer_1 c) (sRet (rB fun δ => (Rs.ok (.bl true)))))))
def m_is_layer (c : Ad) : List D → Rs D := fnD 2 1 (mm_is_layer c)
abbrev s_empty_layer : Stmt := top 14
theorem sc_empty_layer : FnScope ["size"] ["size"] (defScope s_empty_layer) := ⟨rfl, rfl, rfl, by decide +kernel, rfl, by decide +kernel, by decide +kernel⟩
def mm_empty_layer (c : Ad) : S → Out :=
  (sRet (rB fun δ => (e2 dMul (Rs.ok (.str "-")) (eVar 0 δ))))
def m_empty_layer (c : Ad) : List D → Rs D := fnD 1 1 (mm_empty_layer c)
abbrev s_stamp_in : Stmt := top 31
theorem sc_stamp_in : FnScope ["line", "size", "words"] ["line", "size"] (defScope s_stamp_in) := ⟨rfl, rfl, rfl, by decide +kernel, rfl, by decide +kernel, by decide +kernel⟩
def mm_stamp_in (c : Ad) : S → Out :=
  (sSeq (sSet 2 (xB fun δ => (((nMb "str" mSplit (eVar 0 δ) (aCons (Rs.ok (.str " ")) (Rs.ok [])))).bind noD))) (sSeq (sIf (tBs fun δ => (bOr ((e2 dNe (eCb cLen (aCons (eVar 2 δ) (Rs.ok []))) (Rs.ok (.int 2))).bind toB) (bNot (((aCons (e2 dIx (eVar 2 δ) (Rs.ok (.int 0))) (Rs.ok [])).bind (m_is_name c)).bind toB)))) (sRet (rB fun δ => (Rs.ok .non))) sNil) (sSeq (sIf (tBs fun δ => (bOr (bNot (((aCons (e2 dIx (eVar 2 δ) (Rs.ok (.int 1))) (Rs.ok [])).bind (m_is_layer c)).bind toB)) (bOr ((e2 dNe (eCb cLen (aCons (e2 dIx (eVar 2 δ) (Rs.ok (.int 1))) (Rs.ok []))) (eVar 1 δ)).bind toB) ((e2 dEq (e2 dIx (eVar 2 δ) (Rs.ok (.int 1))) ((aCons (eVar 1 δ) (Rs.ok [])).bind (m_empty_layer c))).bind toB)))) (sRet (rB fun δ => (Rs.ok .non))) sNil) (sRet (rB fun δ => (eTup (aCons (e2 dIx (eVar 2 δ) (Rs.ok (.int 0))) (aCons (e2 dIx (eVar 2 δ) (Rs.ok (.int 1))) (Rs.ok [])))))))))
def m_stamp_in (c : Ad) : List D → Rs D := fnD 3 2 (mm_stamp_in c)
abbrev s_frozen : Stmt := top 15
theorem sc_frozen : FnScope ["value", "part"] ["value"] (defScope s_frozen) := ⟨rfl, rfl, rfl, by decide +kernel, rfl, by decide +kernel, by decide +kernel⟩
def le_frozen_1 (c : Ad) (rec : List D → Rs D) (δ : Dv) : Rs D := ((aCons (eVar 1 δ) (Rs.ok [])).bind (rec))
def mg_frozen (c : Ad) (rec : List D → Rs D) : S → Out :=
  (sSeq (sIf (tBs fun δ => ((e1 (bOf (is2 "list" "tuple")) (eVar 0 δ)).bind toB)) (sRet (rB fun δ => (eCb cTuple (aCons (((eLc [1] (cN 1) cTrue (le_frozen_1 c rec) δ (iItems (eVar 0 δ)))).bind noD) (Rs.ok []))))) sNil) (sRet (rB fun δ => (eVar 0 δ))))
def m_frozen (c : Ad) : Nat → List D → Rs D
  | 0 => fun _ => .bad
  | n + 1 => fnD 2 1 (mg_frozen c (m_frozen c n))
abbrev s_is_stamp : Stmt := top 21
theorem sc_is_stamp : FnScope ["value", "size"] ["value", "size"] (defScope s_is_stamp) := ⟨rfl, rfl, rfl, by decide +kernel, rfl, by decide +kernel, by decide +kernel⟩
def mm_is_stamp (c : Ad) : S → Out :=
  (sRet (rB fun δ => (vAnd ((aCons (eVar 0 δ) (Rs.ok [])).bind (m_is_layer c)) (vAnd (e2 dEq (eCb cLen (aCons (eVar 0 δ) (Rs.ok []))) (eVar 1 δ)) (e2 dNe (eVar 0 δ) ((aCons (eVar 1 δ) (Rs.ok [])).bind (m_empty_layer c)))))))
def m_is_stamp (c : Ad) : List D → Rs D := fnD 2 2 (mm_is_stamp c)
abbrev s_Stock___init__ : Stmt := inClass (top 22) 0
theorem sc_Stock___init__ : FnScope ["self", "size", "stamps", "pairs", "numbers", "index", "pair"] ["self", "size", "stamps"] (defScope s_Stock___init__) := ⟨rfl, rfl, rfl, by decide +kernel, rfl, by decide +kernel, by decide +kernel⟩
def lb_Stock___init___1 (c : Ad) : S → Out :=
  (sSeq (sIf (tBs fun δ => (bNot (((aCons (e2 dIx (eVar 6 δ) (Rs.ok (.int 0))) (Rs.ok [])).bind (m_is_name c)).bind toB))) (fun _ => .bad) sNil) (sSeq (sIf (tBs fun δ => (bNot (((aCons (e2 dIx (eVar 6 δ) (Rs.ok (.int 1))) (aCons (eVar 1 δ) (Rs.ok []))).bind (m_is_stamp c)).bind toB))) (fun _ => .bad) sNil) (sSeq (sIf (tVs fun δ => ((e2 dInDic (e2 dIx (eVar 6 δ) (Rs.ok (.int 0))) (eVar 4 δ)).bind toB)) (fun _ => .bad) sNil) (sDPutX (xC 4) (xB fun δ => (e2 dIx (eVar 6 δ) (Rs.ok (.int 0)))) (xB fun δ => (eVar 5 δ))))))
def lp_Stock___init___1 (c : Ad) : S → Out := sFor (fun δ => (iEnumL 0 (eVar 3 δ))) (gTupD 2 (gsCons (gN 5) (gsCons (gN 6) gsNil))) (lb_Stock___init___1 c)
def le_Stock___init___1 (c : Ad) (δ : Dv) : Rs D := (e2 dIx (eVar 6 δ) (Rs.ok (.int 1)))
def mm_Stock___init__ (c : Ad) : S → Out :=
  (sSeq (sSet 3 (xB fun δ => ((aCons (eVar 2 δ) (Rs.ok [])).bind (m_frozen c 4)))) (sSeq (sNew 4 (nB fun δ => (Rs.ok (.dic [])))) (sSeq (lp_Stock___init___1 c) (sSeq (sFrz 4) (sSeq (sFldP c.Stock "size" (xC 0) (xB fun δ => (eVar 1 δ))) (sSeq (sFldP c.Stock "stamps" (xC 0) (xB fun δ => (eVar 3 δ))) (sSeq (sFldP c.Stock "layers" (xC 0) (xB fun δ => (eCb cTuple (aCons (((eLc [6] (cN 6) cTrue (le_Stock___init___1 c) δ (iItems (eVar 3 δ)))).bind noD) (Rs.ok []))))) (sFldP c.Stock "numbers" (xC 0) (xB fun δ => (eVar 4 δ))))))))))
def m_Stock___init__ (c : Ad) : List D → Rs (List (Str × D)) := fnI c.Stock 7 3 (mm_Stock___init__ c)
abbrev s_stock_in : Stmt := top 32
theorem sc_stock_in : FnScope ["lines", "most", "size", "pairs", "taken", "number", "line", "pair"] ["lines", "most"] (defScope s_stock_in) := ⟨rfl, rfl, rfl, by decide +kernel, rfl, by decide +kernel, by decide +kernel⟩
def lb_stock_in_1 (c : Ad) : S → Out :=
  (sSeq (sSet 7 (xB fun δ => ((aCons (eVar 6 δ) (aCons (eVar 2 δ) (Rs.ok []))).bind (m_stamp_in c)))) (sSeq (sIf (tOrS (tBs fun δ => ((e2 dIsN (eVar 7 δ) (Rs.ok .non)).bind toB)) (tOrS (tIn false (xB fun δ => (e2 dIx (eVar 7 δ) (Rs.ok (.int 0)))) (xC 4)) (tBs fun δ => ((e2 dGt (eVar 5 δ) (eVar 1 δ)).bind toB)))) (sRaise c.BadNote ["line"] fun δ => (aCons (eVar 5 δ) (Rs.ok []))) sNil) (sSeq (sApp (xC 3) (xB fun δ => (eVar 7 δ))) (sAdd (xC 4) (xB fun δ => (e2 dIx (eVar 7 δ) (Rs.ok (.int 0))))))))
def lp_stock_in_1 (c : Ad) : S → Out := sFor (fun δ => (iEnumL 1 (eSl (eVar 0 δ) (oPart (Rs.ok (.int 1))) (Rs.ok none)))) (gTupD 2 (gsCons (gN 5) (gsCons (gN 6) gsNil))) (lb_stock_in_1 c)
def mm_stock_in (c : Ad) : S → Out :=
  (sSeq (sSet 2 (xB fun δ => ((aCons (e2 dIx (eVar 0 δ) (Rs.ok (.int 0))) (Rs.ok [])).bind (m_size_in c)))) (sSeq (sIf (tBs fun δ => ((e2 dIsN (eVar 2 δ) (Rs.ok .non)).bind toB)) (sRaise c.BadNote ["line"] fun δ => (aCons (Rs.ok (.int 0)) (Rs.ok []))) sNil) (sSeq (sNew 3 (nB fun δ => (nLst (Rs.ok [])))) (sSeq (sNew 4 (nB fun δ => (Rs.ok (.kset [])))) (sSeq (lp_stock_in_1 c) (sSeq (sFrz 3) (sRet (rB fun δ => (eMake c.Stock (m_Stock___init__ c) (aCons (eVar 2 δ) (aCons (eVar 3 δ) (Rs.ok []))))))))))))
def m_stock_in (c : Ad) : List D → Rs D := fnD 8 2 (mm_stock_in c)
abbrev s_parse_stock : Stmt := top 35
theorem sc_parse_stock : FnScope ["text"] ["text"] (defScope s_parse_stock) := ⟨rfl, rfl, rfl, by decide +kernel, rfl, by decide +kernel, by decide +kernel⟩
def mm_parse_stock (c : Ad) : S → Out :=
  (sRet (rB fun δ => ((aCons (((nMb "str" mSplit (eVar 0 δ) (aCons (Rs.ok (.str "\n")) (Rs.ok [])))).bind noD) (aCons (Rs.ok (.int 24)) (Rs.ok []))).bind (m_stock_in c))))
def m_parse_stock (c : Ad) : List D → Rs D := fnD 1 1 (mm_parse_stock c)
abbrev s_is_pair_line : Stmt := top 42
theorem sc_is_pair_line : FnScope ["line", "words"] ["line"] (defScope s_is_pair_line) := ⟨rfl, rfl, rfl, by decide +kernel, rfl, by decide +kernel, by decide +kernel⟩
def mm_is_pair_line (c : Ad) : S → Out :=
  (sSeq (sSet 1 (xB fun δ => (((nMb "str" mSplit (eVar 0 δ) (aCons (Rs.ok (.str " ")) (Rs.ok [])))).bind noD))) (sRet (rB fun δ => (vAnd (e2 dEq (eCb cLen (aCons (eVar 1 δ) (Rs.ok []))) (Rs.ok (.int 3))) (e2 dEq (e2 dIx (eVar 1 δ) (Rs.ok (.int 0))) (Rs.ok (.str "pair")))))))
def m_is_pair_line (c : Ad) : List D → Rs D := fnD 2 1 (mm_is_pair_line c)
abbrev s_first_pair_line : Stmt := top 43
theorem sc_first_pair_line : FnScope ["lines", "number"] ["lines"] (defScope s_first_pair_line) := ⟨rfl, rfl, rfl, by decide +kernel, rfl, by decide +kernel, by decide +kernel⟩
def lb_first_pair_line_1 (c : Ad) : S → Out :=
  (sIf (tBs fun δ => (((aCons (e2 dIx (eVar 0 δ) (eVar 1 δ)) (Rs.ok [])).bind (m_is_pair_line c)).bind toB)) (sRet (rB fun δ => (eVar 1 δ))) sNil)
def lp_first_pair_line_1 (c : Ad) : S → Out := sFor (fun δ => (iRg rng2 (aCons (Rs.ok (.int 1)) (aCons (eCb cLen (aCons (eVar 0 δ) (Rs.ok []))) (Rs.ok []))))) (gN 1) (lb_first_pair_line_1 c)
def mm_first_pair_line (c : Ad) : S → Out :=
  (sSeq (lp_first_pair_line_1 c) (sRet (rB fun δ => (eCb cLen (aCons (eVar 0 δ) (Rs.ok []))))))
def m_first_pair_line (c : Ad) : List D → Rs D := fnD 2 1 (mm_first_pair_line c)
abbrev s_is_layer_of : Stmt := top 44
theorem sc_is_layer_of : FnScope ["size", "word"] ["size", "word"] (defScope s_is_layer_of) := ⟨rfl, rfl, rfl, by decide +kernel, rfl, by decide +kernel, by decide +kernel⟩
def mm_is_layer_of (c : Ad) : S → Out :=
  (sRet (rB fun δ => (vAnd ((aCons (eVar 1 δ) (Rs.ok [])).bind (m_is_layer c)) (e2 dEq (eCb cLen (aCons (eVar 1 δ) (Rs.ok []))) (eVar 0 δ)))))
def m_is_layer_of (c : Ad) : List D → Rs D := fnD 2 2 (mm_is_layer_of c)
abbrev s_pair_in : Stmt := top 45
theorem sc_pair_in : FnScope ["line", "size", "_", "start", "seen"] ["line", "size"] (defScope s_pair_in) := ⟨rfl, rfl, rfl, by decide +kernel, rfl, by decide +kernel, by decide +kernel⟩
def mm_pair_in (c : Ad) : S → Out :=
  (sSeq (sIf (tBs fun δ => (bNot (((aCons (eVar 0 δ) (Rs.ok [])).bind (m_is_pair_line c)).bind toB))) (sRet (rB fun δ => (Rs.ok .non))) sNil) (sSeq (sAsg (gLstD 3 (gsCons (gN 2) (gsCons (gN 3) (gsCons (gN 4) gsNil)))) fun δ => (((nMb "str" mSplit (eVar 0 δ) (aCons (Rs.ok (.str " ")) (Rs.ok [])))).bind noD)) (sSeq (sIf (tBs fun δ => (bOr (bNot (((aCons (eVar 1 δ) (aCons (eVar 3 δ) (Rs.ok []))).bind (m_is_layer_of c)).bind toB)) (bNot (((aCons (eVar 1 δ) (aCons (eVar 4 δ) (Rs.ok []))).bind (m_is_layer_of c)).bind toB)))) (sRet (rB fun δ => (Rs.ok .non))) sNil) (sRet (rB fun δ => (eTup (aCons (eVar 3 δ) (aCons (eVar 4 δ) (Rs.ok [])))))))))
def m_pair_in (c : Ad) : List D → Rs D := fnD 5 2 (mm_pair_in c)
abbrev s_Box___init__ : Stmt := inClass (top 37) 0
theorem sc_Box___init__ : FnScope ["self", "stock", "pairs"] ["self", "stock", "pairs"] (defScope s_Box___init__) := ⟨rfl, rfl, rfl, by decide +kernel, rfl, by decide +kernel, by decide +kernel⟩
def mm_Box___init__ (c : Ad) : S → Out :=
  (sSeq (sFldP c.Box "stock" (xC 0) (xB fun δ => (eVar 1 δ))) (sFldP c.Box "pairs" (xC 0) (xB fun δ => ((aCons (eVar 2 δ) (Rs.ok [])).bind (m_frozen c 4)))))
def m_Box___init__ (c : Ad) : List D → Rs (List (Str × D)) := fnI c.Box 3 3 (mm_Box___init__ c)
abbrev s_parse_box : Stmt := top 47
theorem sc_parse_box : FnScope ["text", "lines", "first", "stock", "pairs", "number", "pair"] ["text"] (defScope s_parse_box) := ⟨rfl, rfl, rfl, by decide +kernel, rfl, by decide +kernel, by decide +kernel⟩
def lb_parse_box_1 (c : Ad) : S → Out :=
  (sSeq (sSet 6 (xB fun δ => ((aCons (e2 dIx (eVar 1 δ) (eVar 5 δ)) (aCons (e1 (dFld c.Stock "size") (eVar 3 δ)) (Rs.ok []))).bind (m_pair_in c)))) (sSeq (sIf (tOrS (tBs fun δ => ((e2 dIsN (eVar 6 δ) (Rs.ok .non)).bind toB)) (tVs fun δ => ((e2 dEq (eCb cLen (aCons (eVar 4 δ) (Rs.ok []))) (Rs.ok (.int 4))).bind toB))) (sRaise c.BadNote ["line"] fun δ => (aCons (eVar 5 δ) (Rs.ok []))) sNil) (sApp (xC 4) (xB fun δ => (eVar 6 δ)))))
def lp_parse_box_1 (c : Ad) : S → Out := sFor (fun δ => (iRg rng2 (aCons (eVar 2 δ) (aCons (eCb cLen (aCons (eVar 1 δ) (Rs.ok []))) (Rs.ok []))))) (gN 5) (lb_parse_box_1 c)
def mm_parse_box (c : Ad) : S → Out :=
  (sSeq (sSet 1 (xB fun δ => (((nMb "str" mSplit (eVar 0 δ) (aCons (Rs.ok (.str "\n")) (Rs.ok [])))).bind noD))) (sSeq (sSet 2 (xB fun δ => ((aCons (eVar 1 δ) (Rs.ok [])).bind (m_first_pair_line c)))) (sSeq (sSet 3 (xB fun δ => ((aCons (eSl (eVar 1 δ) (Rs.ok none) (oPart (eVar 2 δ))) (aCons (Rs.ok (.int 7)) (Rs.ok []))).bind (m_stock_in c)))) (sSeq (sNew 4 (nB fun δ => (nLst (Rs.ok [])))) (sSeq (lp_parse_box_1 c) (sSeq (sFrz 4) (sRet (rB fun δ => (eMake c.Box (m_Box___init__ c) (aCons (eVar 3 δ) (aCons (eVar 4 δ) (Rs.ok []))))))))))))
def m_parse_box (c : Ad) : List D → Rs D := fnD 7 1 (mm_parse_box c)
abbrev s__law_is_layer : Stmt := top 56
theorem sc__law_is_layer : FnScope ["_law_size", "_law_word", "_law_sign_here"] ["_law_size", "_law_word"] (defScope s__law_is_layer) := ⟨rfl, rfl, rfl, by decide +kernel, rfl, by decide +kernel, by decide +kernel⟩
def lb__law_is_layer_1 (c : Ad) : S → Out :=
  (sIf (tBs fun δ => ((e2 dNotIn (eVar 2 δ) (Rs.ok (.str "-.abcdefghijklmnopqrstuvwxyz"))).bind toB)) (sRet (rB fun δ => (Rs.ok (.bl false)))) sNil)
def lp__law_is_layer_1 (c : Ad) : S → Out := sFor (fun δ => (iItems (eVar 1 δ))) (gN 2) (lb__law_is_layer_1 c)
def mm__law_is_layer (c : Ad) : S → Out :=
  (sSeq (sIf (tBs fun δ => ((e2 dNe (eCb cLen (aCons (eVar 1 δ) (Rs.ok []))) (eVar 0 δ)).bind toB)) (sRet (rB fun δ => (Rs.ok (.bl false)))) sNil) (sSeq (lp__law_is_layer_1 c) (sRet (rB fun δ => (Rs.ok (.bl true))))))
def m__law_is_layer (c : Ad) : List D → Rs D := fnD 3 2 (mm__law_is_layer c)
abbrev s__law_is_name : Stmt := top 55
theorem sc__law_is_name : FnScope ["_law_word", "_law_sign_here"] ["_law_word"] (defScope s__law_is_name) := ⟨rfl, rfl, rfl, by decide +kernel, rfl, by decide +kernel, by decide +kernel⟩
def lb__law_is_name_1 (c : Ad) : S → Out :=
  (sIf (tBs fun δ => ((e2 dNotIn (eVar 1 δ) (Rs.ok (.str "abcdefghijklmnopqrstuvwxyz0123456789"))).bind toB)) (sRet (rB fun δ => (Rs.ok (.bl false)))) sNil)
def lp__law_is_name_1 (c : Ad) : S → Out := sFor (fun δ => (iItems (eVar 0 δ))) (gN 1) (lb__law_is_name_1 c)
def mm__law_is_name (c : Ad) : S → Out :=
  (sSeq (sIf (tBs fun δ => (bOr ((e2 dLt (eCb cLen (aCons (eVar 0 δ) (Rs.ok []))) (Rs.ok (.int 1))).bind toB) (bOr ((e2 dGt (eCb cLen (aCons (eVar 0 δ) (Rs.ok []))) (Rs.ok (.int 8))).bind toB) ((e2 dNotIn (e2 dIx (eVar 0 δ) (Rs.ok (.int 0))) (Rs.ok (.str "abcdefghijklmnopqrstuvwxyz"))).bind toB)))) (sRet (rB fun δ => (Rs.ok (.bl false)))) sNil) (sSeq (lp__law_is_name_1 c) (sRet (rB fun δ => (Rs.ok (.bl true))))))
def m__law_is_name (c : Ad) : List D → Rs D := fnD 2 1 (mm__law_is_name c)
abbrev s__law_read : Stmt := top 63
theorem sc__law_read : FnScope ["_law_note", "_law_most", "_law_count", "_law_lines", "_law_firsts_here", "_law_size", "_law_stamps_here", "_law_pairs", "_law_k", "_law_words", "_law_stamp"] ["_law_note", "_law_most", "_law_count"] (defScope s__law_read) := ⟨rfl, rfl, rfl, by decide +kernel, rfl, by decide +kernel, by decide +kernel⟩
def le__law_read_1 (c : Ad) (δ : Dv) : Rs D := (e2 dAdd (Rs.ok (.str "stock ")) (eCb cStr (aCons (eVar 8 δ) (Rs.ok []))))
def le__law_read_2 (c : Ad) (δ : Dv) : Rs D := (e2 dIx (eVar 10 δ) (Rs.ok (.int 0)))
def lb__law_read_1 (c : Ad) : S → Out :=
  (sSeq (sSet 9 (xB fun δ => (((nMb "str" mSplit (e2 dIx (eVar 3 δ) (eVar 8 δ)) (aCons (Rs.ok (.str " ")) (Rs.ok [])))).bind noD))) (sIf (tBs fun δ => (bAnd ((e2 dEq (eCb cLen (aCons (eVar 9 δ) (Rs.ok []))) (Rs.ok (.int 3))).bind toB) ((e2 dEq (e2 dIx (eVar 9 δ) (Rs.ok (.int 0))) (Rs.ok (.str "pair"))).bind toB))) (sSeq (sIf (tOrS (tBs fun δ => (bNot (((aCons (eVar 5 δ) (aCons (e2 dIx (eVar 9 δ) (Rs.ok (.int 1))) (Rs.ok []))).bind (m__law_is_layer c)).bind toB))) (tOrS (tBs fun δ => (bNot (((aCons (eVar 5 δ) (aCons (e2 dIx (eVar 9 δ) (Rs.ok (.int 2))) (Rs.ok []))).bind (m__law_is_layer c)).bind toB))) (tVs fun δ => ((e2 dEq (eCb cLen (aCons (eVar 7 δ) (Rs.ok []))) (eVar 2 δ)).bind toB)))) (sRet (rV fun δ => (((nLst (aCons (eVar 8 δ) (aCons (eVar 5 δ) (aCons (eVar 6 δ) (aCons (eVar 7 δ) (Rs.ok []))))))).bind noD))) sNil) (sApp (xC 7) (xB fun δ => (eTup (aCons (e2 dIx (eVar 9 δ) (Rs.ok (.int 1))) (aCons (e2 dIx (eVar 9 δ) (Rs.ok (.int 2))) (Rs.ok []))))))) (sSeq (sIf (tOrS (tBs fun δ => ((e2 dNe (eCb cLen (aCons (eVar 9 δ) (Rs.ok []))) (Rs.ok (.int 2))).bind toB)) (tOrS (tVs fun δ => ((e2 dGt (eCb cLen (aCons (eVar 7 δ) (Rs.ok []))) (Rs.ok (.int 0))).bind toB)) (tOrS (tVs fun δ => ((e2 dEq (eCb cLen (aCons (eVar 6 δ) (Rs.ok []))) (eVar 1 δ)).bind toB)) (tBs fun δ => (bNot (((aCons (e2 dIx (eVar 9 δ) (Rs.ok (.int 0))) (Rs.ok [])).bind (m__law_is_name c)).bind toB)))))) (sRet (rV fun δ => (((nLst (aCons (eVar 8 δ) (aCons (eVar 5 δ) (aCons (eVar 6 δ) (aCons (eVar 7 δ) (Rs.ok []))))))).bind noD))) sNil) (sSeq (sIf (tBs fun δ => (bOr (bNot (((aCons (eVar 5 δ) (aCons (e2 dIx (eVar 9 δ) (Rs.ok (.int 1))) (Rs.ok []))).bind (m__law_is_layer c)).bind toB)) ((e2 dEq (e2 dIx (eVar 9 δ) (Rs.ok (.int 1))) (e2 dMul (Rs.ok (.str "-")) (eVar 5 δ))).bind toB))) (sRet (rV fun δ => (((nLst (aCons (eVar 8 δ) (aCons (eVar 5 δ) (aCons (eVar 6 δ) (aCons (eVar 7 δ) (Rs.ok []))))))).bind noD))) sNil) (sSeq (sIf (tVs fun δ => ((e2 dIn (e2 dIx (eVar 9 δ) (Rs.ok (.int 0))) (((eLc [10] (cN 10) cTrue (le__law_read_2 c) δ (iItems (eVar 6 δ)))).bind noD)).bind toB)) (sRet (rV fun δ => (((nLst (aCons (eVar 8 δ) (aCons (eVar 5 δ) (aCons (eVar 6 δ) (aCons (eVar 7 δ) (Rs.ok []))))))).bind noD))) sNil) (sApp (xC 6) (xB fun δ => (eTup (aCons (e2 dIx (eVar 9 δ) (Rs.ok (.int 0))) (aCons (e2 dIx (eVar 9 δ) (Rs.ok (.int 1))) (Rs.ok [])))))))))))
def lp__law_read_1 (c : Ad) : S → Out := sFor (fun δ => (iRg rng2 (aCons (Rs.ok (.int 1)) (aCons (eCb cLen (aCons (eVar 3 δ) (Rs.ok []))) (Rs.ok []))))) (gN 8) (lb__law_read_1 c)
def mm__law_read (c : Ad) : S → Out :=
  (sSeq (sSet 3 (xB fun δ => (((nMb "str" mSplit (eVar 0 δ) (aCons (Rs.ok (.str "\n")) (Rs.ok [])))).bind noD))) (sSeq (sSet 4 (xB fun δ => (((eLc [8] (cN 8) cTrue (le__law_read_1 c) δ (iRg rng2 (aCons (Rs.ok (.int 1)) (aCons (Rs.ok (.int 31)) (Rs.ok [])))))).bind noD))) (sSeq (sIf (tBs fun δ => ((e2 dNotIn (e2 dIx (eVar 3 δ) (Rs.ok (.int 0))) (eVar 4 δ)).bind toB)) (sRet (rB fun δ => (((nLst (aCons (Rs.ok (.int 0)) (aCons (Rs.ok (.int 0)) (aCons (((nLst (Rs.ok []))).bind noD) (aCons (((nLst (Rs.ok []))).bind noD) (Rs.ok []))))))).bind noD))) sNil) (sSeq (sSet 5 (xB fun δ => (e2 dAdd (Rs.ok (.int 1)) (eMb "list" mIndex (eVar 4 δ) (aCons (e2 dIx (eVar 3 δ) (Rs.ok (.int 0))) (Rs.ok [])))))) (sSeq (sNew 6 (nB fun δ => (nLst (Rs.ok [])))) (sSeq (sNew 7 (nB fun δ => (nLst (Rs.ok [])))) (sSeq (lp__law_read_1 c) (sSeq (sFrz 6) (sSeq (sFrz 7) (sRet (rB fun δ => (((nLst (aCons (Rs.ok .non) (aCons (eVar 5 δ) (aCons (eVar 6 δ) (aCons (eVar 7 δ) (Rs.ok []))))))).bind noD))))))))))))
def m__law_read (c : Ad) : List D → Rs D := fnD 11 3 (mm__law_read c)
abbrev s__law_told : Stmt := top 64
theorem sc__law_told : FnScope ["_law_word", "_law_note", "_law_named", "e", "_law_others"] ["_law_word", "_law_note", "_law_named"] (defScope s__law_told) := ⟨rfl, rfl, rfl, by decide +kernel, rfl, by decide +kernel, by decide +kernel⟩
def mh__law_told_BadNote (c : Ad) (a : Addr) (d : Option Addr) : S → Out :=
  (sSeq (sSet 4 (xB fun δ => (((nLst (aCons (e1 (xIs a d false) (eVar 3 δ)) (aCons (e1 (xIs a d false) (eVar 3 δ)) (aCons (e1 (xIs a d false) (eVar 3 δ)) (Rs.ok [])))))).bind noD))) (sSeq (sSet 4 (xB fun δ => (e2 dAdd (eVar 4 δ) (((nLst (aCons (e1 (xIs a d false) (eVar 3 δ)) (aCons (e1 (xIs a d false) (eVar 3 δ)) (Rs.ok []))))).bind noD)))) (sSeq (sIf (tBs fun δ => (bNot ((e1 (xIs a d true) (eVar 3 δ)).bind toB))) (sRet (rB fun δ => (((nLst (aCons (Rs.ok .non) (aCons (e1 dNeg (Rs.ok (.int 1))) (aCons (Rs.ok (.bl false)) (Rs.ok [])))))).bind noD))) sNil) (sRet (rB fun δ => (((nLst (aCons (Rs.ok .non) (aCons (e1 (xFld a d "line") (eVar 3 δ)) (aCons (vAnd (e2 dNotIn (Rs.ok (.bl true)) (eVar 4 δ)) (e1 (xIs a d true) (eVar 3 δ))) (Rs.ok [])))))).bind noD))))))
def mh__law_told (c : Ad) (a : Addr) (d : Option Addr) (x : Xn) : S → Out := if x.c = c.BadNote then mh__law_told_BadNote c a d else fun _ => .bad
def mc__law_told (c : Ad) (C : Addr) : Option Bool := if C = c.BadNote then some true else none
theorem he__law_told (c : Ad) : ∀ (a : Addr) (d : Option Addr) (x : Xn) (s : S), mc__law_told c x.c = some true → s.sl.length = 5 → mh__law_told c a d x (s.put 3 (.dat (.exn a d x.fs))) = mh__law_told c 0 none x (s.put 3 (.dat (.exn 0 none x.fs))) := by
  intro a d x s h hl
  obtain ⟨sl, ce⟩ := s
  match sl, hl with
  | [x0, x1, x2, x3, x4], _ =>
    unfold mh__law_told
    split <;> first
      | rfl
      | (simp [mh__law_told_BadNote, sSeq, Out.seq, sIf, sSet, sNew, sRet, oX, S.put, nB, tBs, tVs, rB, rV, xB, xV, envB, envV, eVar, e1, e2, xIs, xFld, baseX, viewX, aCons, nLst, bNot, toB, sizeLine_eq, noD, dAdd, sNil, dNotIn, inSeq, flatD, flatEq, vAnd, vNot, bAnd, bOr, dNeg, List.lookup]; done)
      | (simp [mh__law_told_BadNote, sSeq, Out.seq, sIf, sSet, sNew, sRet, oX, S.put, nB, tBs, tVs, rB, rV, xB, xV, envB, envV, eVar, e1, e2, xIs, xFld, baseX, viewX, aCons, nLst, bNot, toB, sizeLine_eq, noD, dAdd, sNil, dNotIn, inSeq, flatD, flatEq, vAnd, vNot, bAnd, bOr, dNeg, List.lookup]
         (generalize List.lookup _ x.fs = o)
         cases o <;> simp [mh__law_told_BadNote, sSeq, Out.seq, sIf, sSet, sNew, sRet, oX, S.put, nB, tBs, tVs, rB, rV, xB, xV, envB, envV, eVar, e1, e2, xIs, xFld, baseX, viewX, aCons, nLst, bNot, toB, sizeLine_eq, noD, dAdd, sNil, dNotIn, inSeq, flatD, flatEq, vAnd, vNot, bAnd, bOr, dNeg, List.lookup])
def mm__law_told (c : Ad) : S → Out :=
  (sTry 5 3 (mc__law_told c) (sSeq (sIf (tBs fun δ => (bAnd ((e2 dEq (eVar 0 δ) (Rs.ok (.str "stock"))).bind toB) ((eVar 2 δ).bind toB))) (sRet (rB fun δ => (((nLst (aCons (eCallN 0 1 (m_parse_stock c) (Rs.ok []) (aCons (eVar 1 δ) (Rs.ok []))) (aCons (Rs.ok .non) (aCons (Rs.ok (.bl true)) (Rs.ok [])))))).bind noD))) sNil) (sSeq (sIf (tBs fun δ => ((e2 dEq (eVar 0 δ) (Rs.ok (.str "stock"))).bind toB)) (sRet (rB fun δ => (((nLst (aCons ((aCons (eVar 1 δ) (Rs.ok [])).bind (m_parse_stock c)) (aCons (Rs.ok .non) (aCons (Rs.ok (.bl true)) (Rs.ok [])))))).bind noD))) sNil) (sSeq (sIf (tBs fun δ => ((eVar 2 δ).bind toB)) (sRet (rB fun δ => (((nLst (aCons (eCallN 0 1 (m_parse_box c) (Rs.ok []) (aCons (eVar 1 δ) (Rs.ok []))) (aCons (Rs.ok .non) (aCons (Rs.ok (.bl true)) (Rs.ok [])))))).bind noD))) sNil) (sRet (rB fun δ => (((nLst (aCons ((aCons (eVar 1 δ) (Rs.ok [])).bind (m_parse_box c)) (aCons (Rs.ok .non) (aCons (Rs.ok (.bl true)) (Rs.ok [])))))).bind noD)))))) fun x s => mh__law_told c 0 none x s)
def m__law_told (c : Ad) : List D → Rs D := fnD 5 3 (mm__law_told c)
abbrev s__law_whole : Stmt := top 49
theorem sc__law_whole : FnScope ["_law_value"] ["_law_value"] (defScope s__law_whole) := ⟨rfl, rfl, rfl, by decide +kernel, rfl, by decide +kernel, by decide +kernel⟩
def mm__law_whole (c : Ad) : S → Out :=
  (sRet (rB fun δ => (vAnd (e1 (bOf (isB "int")) (eVar 0 δ)) (vNot (e1 (bOf (isB "bool")) (eVar 0 δ))))))
def m__law_whole (c : Ad) : List D → Rs D := fnD 1 1 (mm__law_whole c)
abbrev s__law_alike : Stmt := top 52
theorem sc__law_alike : FnScope ["_law_told_here", "_law_due", "_law_k"] ["_law_told_here", "_law_due"] (defScope s__law_alike) := ⟨rfl, rfl, rfl, by decide +kernel, rfl, by decide +kernel, by decide +kernel⟩
def lb__law_alike_1 (c : Ad) (rec : List D → Rs D) : S → Out :=
  (sIf (tBs fun δ => (bNot (((aCons (e2 dIx (eVar 0 δ) (eVar 2 δ)) (aCons (e2 dIx (eVar 1 δ) (eVar 2 δ)) (Rs.ok []))).bind (rec)).bind toB))) (sRet (rB fun δ => (Rs.ok (.bl false)))) sNil)
def lp__law_alike_1 (c : Ad) (rec : List D → Rs D) : S → Out := sFor (fun δ => (iRg rng1 (aCons (eCb cLen (aCons (eVar 1 δ) (Rs.ok []))) (Rs.ok [])))) (gN 2) (lb__law_alike_1 c rec)
def mg__law_alike (c : Ad) (rec : List D → Rs D) : S → Out :=
  (sSeq (sIf (tBs fun δ => ((e2 dIsN (eVar 1 δ) (Rs.ok .non)).bind toB)) (sRet (rB fun δ => (e2 dIsN (eVar 0 δ) (Rs.ok .non)))) sNil) (sSeq (sIf (tBs fun δ => ((e2 dIsB (eVar 1 δ) (Rs.ok (.bl true))).bind toB)) (sRet (rB fun δ => (e2 dIsB (eVar 0 δ) (Rs.ok (.bl true))))) sNil) (sSeq (sIf (tBs fun δ => ((e2 dIsB (eVar 1 δ) (Rs.ok (.bl false))).bind toB)) (sRet (rB fun δ => (e2 dIsB (eVar 0 δ) (Rs.ok (.bl false))))) sNil) (sSeq (sIf (tBs fun δ => ((e1 (bOf (isB "str")) (eVar 1 δ)).bind toB)) (sRet (rB fun δ => (vAnd (e1 (bOf (isB "str")) (eVar 0 δ)) (e2 dEq (eVar 0 δ) (eVar 1 δ))))) sNil) (sSeq (sIf (tBs fun δ => ((e1 (bOf (isB "int")) (eVar 1 δ)).bind toB)) (sRet (rB fun δ => (vAnd ((aCons (eVar 0 δ) (Rs.ok [])).bind (m__law_whole c)) (e2 dEq (eVar 0 δ) (eVar 1 δ))))) sNil) (sSeq (sIf (tBs fun δ => (bOr (bNot ((e1 (bOf (isB "tuple")) (eVar 0 δ)).bind toB)) ((e2 dNe (eCb cLen (aCons (eVar 0 δ) (Rs.ok []))) (eCb cLen (aCons (eVar 1 δ) (Rs.ok [])))).bind toB))) (sRet (rB fun δ => (Rs.ok (.bl false)))) sNil) (sSeq (lp__law_alike_1 c rec) (sRet (rB fun δ => (Rs.ok (.bl true)))))))))))
def m__law_alike (c : Ad) : Nat → List D → Rs D
  | 0 => fun _ => .bad
  | n + 1 => fnD 3 2 (mg__law_alike c (m__law_alike c n))
abbrev s_Stock_names : Stmt := inClass (top 22) 1
theorem sc_Stock_names : FnScope ["self", "pair"] ["self"] (defScope s_Stock_names) := ⟨rfl, rfl, rfl, by decide +kernel, rfl, by decide +kernel, by decide +kernel⟩
def le_Stock_names_1 (c : Ad) (δ : Dv) : Rs D := (e2 dIx (eVar 1 δ) (Rs.ok (.int 0)))
def mm_Stock_names (c : Ad) : S → Out :=
  (sRet (rB fun δ => (eCb cTuple (aCons (((eLc [1] (cN 1) cTrue (le_Stock_names_1 c) δ (iItems (e1 (dFld c.Stock "stamps") (eVar 0 δ))))).bind noD) (Rs.ok [])))))
def m_Stock_names (c : Ad) : List D → Rs D := fnD 2 1 (mm_Stock_names c)
abbrev s_Stock___eq__ : Stmt := inClass (top 22) 5
theorem sc_Stock___eq__ : FnScope ["self", "other"] ["self", "other"] (defScope s_Stock___eq__) := ⟨rfl, rfl, rfl, by decide +kernel, rfl, by decide +kernel, by decide +kernel⟩
def mm_Stock___eq__ (c : Ad) : S → Out :=
  (sRet (rB fun δ => (vAnd (e1 (bOf (isC c.Stock)) (eVar 1 δ)) (vAnd (e2 dEq (e1 (dFld c.Stock "size") (eVar 0 δ)) (e1 (dFld c.Stock "size") (eVar 1 δ))) (e2 dEq (e1 (dFld c.Stock "stamps") (eVar 0 δ)) (e1 (dFld c.Stock "stamps") (eVar 1 δ)))))))
def m_Stock___eq__ (c : Ad) : List D → Rs D := fnD 2 2 (mm_Stock___eq__ c)
abbrev s__law_is_stock : Stmt := top 65
theorem sc__law_is_stock : FnScope ["_law_read_here", "_law_size", "_law_stamps_here", "_law_stamp"] ["_law_read_here", "_law_size", "_law_stamps_here"] (defScope s__law_is_stock) := ⟨rfl, rfl, rfl, by decide +kernel, rfl, by decide +kernel, by decide +kernel⟩
def le__law_is_stock_1 (c : Ad) (δ : Dv) : Rs D := (e2 dIx (eVar 3 δ) (Rs.ok (.int 0)))
def mm__law_is_stock (c : Ad) : S → Out :=
  (sSeq (sIf (tBs fun δ => (bOr (bNot ((e1 (bOf (isC c.Stock)) (eVar 0 δ)).bind toB)) (bOr (bNot (((aCons (e1 (dFld c.Stock "size") (eVar 0 δ)) (aCons (eVar 1 δ) (Rs.ok []))).bind (m__law_alike c 4)).bind toB)) (bNot (((aCons (e1 (dFld c.Stock "stamps") (eVar 0 δ)) (aCons (eCb cTuple (aCons (eVar 2 δ) (Rs.ok []))) (Rs.ok []))).bind (m__law_alike c 4)).bind toB))))) (sRet (rB fun δ => (Rs.ok (.bl false)))) sNil) (sRet (rB fun δ => (vAnd ((aCons (eProp c.Stock (m_Stock_names c) (eVar 0 δ)) (aCons (eCb cTuple (aCons (((eLc [3] (cN 3) cTrue (le__law_is_stock_1 c) δ (iItems (eVar 2 δ)))).bind noD) (Rs.ok []))) (Rs.ok []))).bind (m__law_alike c 4)) (eEqI c.Stock (m_Stock___eq__ c) (eVar 0 δ) (eMake c.Stock (m_Stock___init__ c) (aCons (eVar 1 δ) (aCons (eVar 2 δ) (Rs.ok [])))))))))
def m__law_is_stock (c : Ad) : List D → Rs D := fnD 4 3 (mm__law_is_stock c)
abbrev s_stock_lines : Stmt := top 33
theorem sc_stock_lines : FnScope ["stock", "name", "stamp"] ["stock"] (defScope s_stock_lines) := ⟨rfl, rfl, rfl, by decide +kernel, rfl, by decide +kernel, by decide +kernel⟩
def le_stock_lines_1 (c : Ad) (δ : Dv) : Rs D := (jn [(e1 fmtD (eVar 1 δ)), (Rs.ok (.str " ")), (e1 fmtD (eVar 2 δ))] Str.empty)
def mm_stock_lines (c : Ad) : S → Out :=
  (sRet (rB fun δ => (((nLst (aCons (jn [(e1 fmtD (Rs.ok (.str "stock "))), (e1 fmtD (e1 (dFld c.Stock "size") (eVar 0 δ)))] Str.empty) (aStar (((eLc [1, 2] (cTupD 2 (csCons (cN 1) (csCons (cN 2) csNil))) cTrue (le_stock_lines_1 c) δ (iItems (e1 (dFld c.Stock "stamps") (eVar 0 δ))))).bind noD) (Rs.ok []))))).bind noD)))
def m_stock_lines (c : Ad) : List D → Rs D := fnD 3 1 (mm_stock_lines c)
abbrev s_format_stock : Stmt := top 34
theorem sc_format_stock : FnScope ["stock"] ["stock"] (defScope s_format_stock) := ⟨rfl, rfl, rfl, by decide +kernel, rfl, by decide +kernel, by decide +kernel⟩
def mm_format_stock (c : Ad) : S → Out :=
  (sRet (rB fun δ => (eMb "str" mJoin (Rs.ok (.str "\n")) (aCons ((aCons (eVar 0 δ) (Rs.ok [])).bind (m_stock_lines c)) (Rs.ok [])))))
def m_format_stock (c : Ad) : List D → Rs D := fnD 1 1 (mm_format_stock c)
abbrev s__law_stock_asked : Stmt := top 66
theorem sc__law_stock_asked : FnScope ["_law_note", "_law_named", "_law_due", "_law_told_here"] ["_law_note", "_law_named"] (defScope s__law_stock_asked) := ⟨rfl, rfl, rfl, by decide +kernel, rfl, by decide +kernel, by decide +kernel⟩
def mm__law_stock_asked (c : Ad) : S → Out :=
  (sSeq (sSet 2 (xB fun δ => ((aCons (eVar 0 δ) (aCons (Rs.ok (.int 24)) (aCons (Rs.ok (.int 0)) (Rs.ok [])))).bind (m__law_read c)))) (sSeq (sSet 3 (xB fun δ => ((aCons (Rs.ok (.str "stock")) (aCons (eVar 0 δ) (aCons (eVar 1 δ) (Rs.ok [])))).bind (m__law_told c)))) (sSeq (sIf (tBs fun δ => ((e2 dNotN (e2 dIx (eVar 2 δ) (Rs.ok (.int 0))) (Rs.ok .non)).bind toB)) (sRet (rB fun δ => (vAnd (e2 dIsN (e2 dIx (eVar 3 δ) (Rs.ok (.int 0))) (Rs.ok .non)) (vAnd (e2 dIsB (e2 dIx (eVar 3 δ) (Rs.ok (.int 2))) (Rs.ok (.bl true))) ((aCons (e2 dIx (eVar 3 δ) (Rs.ok (.int 1))) (aCons (e2 dIx (eVar 2 δ) (Rs.ok (.int 0))) (Rs.ok []))).bind (m__law_alike c 4)))))) sNil) (sSeq (sIf (tBs fun δ => (bOr ((e2 dNotN (e2 dIx (eVar 3 δ) (Rs.ok (.int 1))) (Rs.ok .non)).bind toB) (bNot (((aCons (e2 dIx (eVar 3 δ) (Rs.ok (.int 0))) (aCons (e2 dIx (eVar 2 δ) (Rs.ok (.int 1))) (aCons (e2 dIx (eVar 2 δ) (Rs.ok (.int 2))) (Rs.ok [])))).bind (m__law_is_stock c)).bind toB)))) (sRet (rB fun δ => (Rs.ok (.bl false)))) sNil) (sRet (rB fun δ => ((aCons ((aCons (e2 dIx (eVar 3 δ) (Rs.ok (.int 0))) (Rs.ok [])).bind (m_format_stock c)) (aCons (eVar 0 δ) (Rs.ok []))).bind (m__law_alike c 4))))))))
def m__law_stock_asked (c : Ad) : List D → Rs D := fnD 4 2 (mm__law_stock_asked c)
abbrev s_Box___len__ : Stmt := inClass (top 37) 1
theorem sc_Box___len__ : FnScope ["self"] ["self"] (defScope s_Box___len__) := ⟨rfl, rfl, rfl, by decide +kernel, rfl, by decide +kernel, by decide +kernel⟩
def mm_Box___len__ (c : Ad) : S → Out :=
  (sRet (rB fun δ => (eCb cLen (aCons (e1 (dFld c.Box "pairs") (eVar 0 δ)) (Rs.ok [])))))
def m_Box___len__ (c : Ad) : List D → Rs D := fnD 1 1 (mm_Box___len__ c)
abbrev s_Box___eq__ : Stmt := inClass (top 37) 3
theorem sc_Box___eq__ : FnScope ["self", "other"] ["self", "other"] (defScope s_Box___eq__) := ⟨rfl, rfl, rfl, by decide +kernel, rfl, by decide +kernel, by decide +kernel⟩
def mm_Box___eq__ (c : Ad) : S → Out :=
  (sRet (rB fun δ => (vAnd (e1 (bOf (isC c.Box)) (eVar 1 δ)) (vAnd (eEqI c.Stock (m_Stock___eq__ c) (e1 (dFld c.Box "stock") (eVar 0 δ)) (e1 (dFld c.Box "stock") (eVar 1 δ))) (e2 dEq (e1 (dFld c.Box "pairs") (eVar 0 δ)) (e1 (dFld c.Box "pairs") (eVar 1 δ)))))))
def m_Box___eq__ (c : Ad) : List D → Rs D := fnD 2 2 (mm_Box___eq__ c)
abbrev s_format_box : Stmt := top 46
theorem sc_format_box : FnScope ["box", "start", "seen"] ["box"] (defScope s_format_box) := ⟨rfl, rfl, rfl, by decide +kernel, rfl, by decide +kernel, by decide +kernel⟩
def le_format_box_1 (c : Ad) (δ : Dv) : Rs D := (jn [(e1 fmtD (Rs.ok (.str "pair"))), (Rs.ok (.str " ")), (e1 fmtD (eVar 1 δ)), (Rs.ok (.str " ")), (e1 fmtD (eVar 2 δ))] Str.empty)
def mm_format_box (c : Ad) : S → Out :=
  (sRet (rB fun δ => (eMb "str" mJoin (Rs.ok (.str "\n")) (aCons (((nLst (aStar ((aCons (e1 (dFld c.Box "stock") (eVar 0 δ)) (Rs.ok [])).bind (m_stock_lines c)) (aStar (((eLc [1, 2] (cTupD 2 (csCons (cN 1) (csCons (cN 2) csNil))) cTrue (le_format_box_1 c) δ (iItems (e1 (dFld c.Box "pairs") (eVar 0 δ))))).bind noD) (Rs.ok []))))).bind noD) (Rs.ok [])))))
def m_format_box (c : Ad) : List D → Rs D := fnD 3 1 (mm_format_box c)
abbrev s__law_asked : Stmt := top 67
theorem sc__law_asked : FnScope ["_law_note", "_law_named", "_law_due", "_law_told_here", "_law_read_here"] ["_law_note", "_law_named"] (defScope s__law_asked) := ⟨rfl, rfl, rfl, by decide +kernel, rfl, by decide +kernel, by decide +kernel⟩
def mm__law_asked (c : Ad) : S → Out :=
  (sSeq (sSet 2 (xB fun δ => ((aCons (eVar 0 δ) (aCons (Rs.ok (.int 7)) (aCons (Rs.ok (.int 4)) (Rs.ok [])))).bind (m__law_read c)))) (sSeq (sSet 3 (xB fun δ => ((aCons (Rs.ok (.str "box")) (aCons (eVar 0 δ) (aCons (vNot (eVar 1 δ)) (Rs.ok [])))).bind (m__law_told c)))) (sSeq (sIf (tBs fun δ => (bNot (((aCons (eVar 0 δ) (aCons (eVar 1 δ) (Rs.ok []))).bind (m__law_stock_asked c)).bind toB))) (sRet (rB fun δ => (Rs.ok (.bl false)))) sNil) (sSeq (sIf (tBs fun δ => ((e2 dNotN (e2 dIx (eVar 2 δ) (Rs.ok (.int 0))) (Rs.ok .non)).bind toB)) (sRet (rB fun δ => (vAnd (e2 dIsN (e2 dIx (eVar 3 δ) (Rs.ok (.int 0))) (Rs.ok .non)) (vAnd (e2 dIsB (e2 dIx (eVar 3 δ) (Rs.ok (.int 2))) (Rs.ok (.bl true))) ((aCons (e2 dIx (eVar 3 δ) (Rs.ok (.int 1))) (aCons (e2 dIx (eVar 2 δ) (Rs.ok (.int 0))) (Rs.ok []))).bind (m__law_alike c 4)))))) sNil) (sSeq (sSet 4 (xB fun δ => (e2 dIx (eVar 3 δ) (Rs.ok (.int 0))))) (sSeq (sIf (tBs fun δ => (bOr ((e2 dNotN (e2 dIx (eVar 3 δ) (Rs.ok (.int 1))) (Rs.ok .non)).bind toB) (bOr (bNot ((e1 (bOf (isC c.Box)) (eVar 4 δ)).bind toB)) (bNot (((aCons (e1 (dFld c.Box "stock") (eVar 4 δ)) (aCons (e2 dIx (eVar 2 δ) (Rs.ok (.int 1))) (aCons (e2 dIx (eVar 2 δ) (Rs.ok (.int 2))) (Rs.ok [])))).bind (m__law_is_stock c)).bind toB))))) (sRet (rB fun δ => (Rs.ok (.bl false)))) sNil) (sSeq (sIf (tBs fun δ => (bOr (bNot (((aCons (e1 (dFld c.Box "pairs") (eVar 4 δ)) (aCons (eCb cTuple (aCons (e2 dIx (eVar 2 δ) (Rs.ok (.int 3))) (Rs.ok []))) (Rs.ok []))).bind (m__law_alike c 4)).bind toB)) (bNot (((aCons (eLenI c.Box (m_Box___len__ c) (aCons (eVar 4 δ) (Rs.ok []))) (aCons (eCb cLen (aCons (e2 dIx (eVar 2 δ) (Rs.ok (.int 3))) (Rs.ok []))) (Rs.ok []))).bind (m__law_alike c 4)).bind toB)))) (sRet (rB fun δ => (Rs.ok (.bl false)))) sNil) (sRet (rB fun δ => (vAnd (eEqI c.Box (m_Box___eq__ c) (eVar 4 δ) (eMake c.Box (m_Box___init__ c) (aCons (eMake c.Stock (m_Stock___init__ c) (aCons (e2 dIx (eVar 2 δ) (Rs.ok (.int 1))) (aCons (e2 dIx (eVar 2 δ) (Rs.ok (.int 2))) (Rs.ok [])))) (aCons (e2 dIx (eVar 2 δ) (Rs.ok (.int 3))) (Rs.ok []))))) ((aCons ((aCons (eVar 4 δ) (Rs.ok [])).bind (m_format_box c)) (aCons (eVar 0 δ) (Rs.ok []))).bind (m__law_alike c 4))))))))))))
def m__law_asked (c : Ad) : List D → Rs D := fnD 5 2 (mm__law_asked c)
abbrev s__law_fresh : Stmt := top 54
theorem sc__law_fresh : FnScope ["_law_name_here", "_law_taken", "_law_k"] ["_law_name_here", "_law_taken"] (defScope s__law_fresh) := ⟨rfl, rfl, rfl, by decide +kernel, rfl, by decide +kernel, by decide +kernel⟩
def lb__law_fresh_1 (c : Ad) : S → Out :=
  (sIf (tBs fun δ => ((e2 dNotIn (e2 dAdd (Rs.ok (.str "q")) (eCb cStr (aCons (eVar 2 δ) (Rs.ok [])))) (eVar 1 δ)).bind toB)) (sRet (rB fun δ => (e2 dAdd (Rs.ok (.str "q")) (eCb cStr (aCons (eVar 2 δ) (Rs.ok [])))))) sNil)
def lp__law_fresh_1 (c : Ad) : S → Out := sFor (fun δ => (iRg rng1 (aCons (Rs.ok (.int 60)) (Rs.ok [])))) (gN 2) (lb__law_fresh_1 c)
def mm__law_fresh (c : Ad) : S → Out :=
  (sSeq (sIf (tBs fun δ => ((e2 dNotIn (eVar 0 δ) (eVar 1 δ)).bind toB)) (sRet (rB fun δ => (eVar 0 δ))) sNil) (sSeq (lp__law_fresh_1 c) (sRet (rB fun δ => (eVar 0 δ)))))
def m__law_fresh (c : Ad) : List D → Rs D := fnD 3 2 (mm__law_fresh c)
abbrev s__law_full : Stmt := top 71
theorem sc__law_full : FnScope ["_law_size", "_law_stamps_here", "_law_many", "_law_lines", "_law_taken", "_law_k", "_law_name_here", "_law_stamp"] ["_law_size", "_law_stamps_here", "_law_many"] (defScope s__law_full) := ⟨rfl, rfl, rfl, by decide +kernel, rfl, by decide +kernel, by decide +kernel⟩
def le__law_full_1 (c : Ad) (δ : Dv) : Rs D := (e2 dAdd (e2 dAdd (e2 dIx (eVar 7 δ) (Rs.ok (.int 0))) (Rs.ok (.str " "))) (e2 dIx (eVar 7 δ) (Rs.ok (.int 1))))
def le__law_full_2 (c : Ad) (δ : Dv) : Rs D := (e2 dAdd (e2 dAdd (e2 dIx (eVar 7 δ) (Rs.ok (.int 0))) (Rs.ok (.str " "))) (e2 dIx (eVar 7 δ) (Rs.ok (.int 1))))
def le__law_full_3 (c : Ad) (δ : Dv) : Rs D := (e2 dIx (eVar 7 δ) (Rs.ok (.int 0)))
def lb__law_full_1 (c : Ad) : S → Out :=
  (sSeq (sSet 6 (xV fun δ => ((aCons (e2 dAdd (Rs.ok (.str "m")) (eCb cStr (aCons (eVar 5 δ) (Rs.ok [])))) (aCons (eVar 4 δ) (Rs.ok []))).bind (m__law_fresh c)))) (sSeq (sApp (xC 4) (xB fun δ => (eVar 6 δ))) (sApp (xC 3) (xB fun δ => (e2 dAdd (e2 dAdd (e2 dAdd (eVar 6 δ) (Rs.ok (.str " "))) (e2 dMul (Rs.ok (.str "-")) (e2 dSub (eVar 0 δ) (Rs.ok (.int 1))))) (Rs.ok (.str "b")))))))
def lp__law_full_1 (c : Ad) : S → Out := sFor (fun δ => (iRg rng1 (aCons (e2 dSub (eVar 2 δ) (eCb cLen (aCons (eVar 1 δ) (Rs.ok [])))) (Rs.ok [])))) (gN 5) (lb__law_full_1 c)
def mm__law_full (c : Ad) : S → Out :=
  (sSeq (sNew 3 (nB fun δ => (nAdd (((nLst (aCons (e2 dAdd (Rs.ok (.str "stock ")) (eCb cStr (aCons (eVar 0 δ) (Rs.ok [])))) (Rs.ok [])))).bind noD) (((eLc [7] (cN 7) cTrue (le__law_full_2 c) δ (iItems (eVar 1 δ)))).bind noD)))) (sSeq (sNew 4 (nB fun δ => (eLc [7] (cN 7) cTrue (le__law_full_3 c) δ (iItems (eVar 1 δ))))) (sSeq (lp__law_full_1 c) (sSeq (sFrz 3) (sSeq (sFrz 4) (sRet (rB fun δ => (eVar 3 δ))))))))
def m__law_full (c : Ad) : List D → Rs D := fnD 8 3 (mm__law_full c)
abbrev s__law_notes : Stmt := top 72
theorem sc__law_notes : FnScope ["_law_size", "_law_stamps_here", "_law_pairs", "_law_digits_here", "_law_first", "_law_second", "_law_told_here", "_law_full_here", "_law_many", "_law_pair", "_law_k"] ["_law_size", "_law_stamps_here", "_law_pairs", "_law_digits_here"] (defScope s__law_notes) := ⟨rfl, rfl, rfl, by decide +kernel, rfl, by decide +kernel, by decide +kernel⟩
def le__law_notes_1 (c : Ad) (δ : Dv) : Rs D := (e2 dAdd (e2 dAdd (e2 dAdd (Rs.ok (.str "pair ")) (e2 dIx (eVar 9 δ) (Rs.ok (.int 0)))) (Rs.ok (.str " "))) (e2 dIx (eVar 9 δ) (Rs.ok (.int 1))))
def le__law_notes_2 (c : Ad) (δ : Dv) : Rs D := (e2 dAdd (e2 dAdd (e2 dAdd (Rs.ok (.str "pair ")) (e2 dIx (eVar 9 δ) (Rs.ok (.int 0)))) (Rs.ok (.str " "))) (e2 dIx (eVar 9 δ) (Rs.ok (.int 1))))
def le__law_notes_3 (c : Ad) (δ : Dv) : Rs D := (e2 dIx (eVar 6 δ) (e2 dMod (eVar 10 δ) (eCb cLen (aCons (eVar 6 δ) (Rs.ok [])))))
def mm__law_notes (c : Ad) : S → Out :=
  (sSeq (sSet 4 (xB fun δ => ((aCons (eVar 0 δ) (aCons (eVar 1 δ) (aCons (Rs.ok (.int 0)) (Rs.ok [])))).bind (m__law_full c)))) (sSeq (sSet 5 (xB fun δ => (e2 dAdd ((aCons (eVar 0 δ) (aCons (eSl (eVar 1 δ) (Rs.ok none) (oPart (Rs.ok (.int 7)))) (aCons (Rs.ok (.int 0)) (Rs.ok [])))).bind (m__law_full c)) (((eLc [9] (cN 9) cTrue (le__law_notes_1 c) δ (iItems (eVar 2 δ)))).bind noD)))) (sSeq (sSet 6 (xB fun δ => (e2 dAdd (((eLc [9] (cN 9) cTrue (le__law_notes_2 c) δ (iItems (eVar 2 δ)))).bind noD) (((nLst (aCons (e2 dAdd (e2 dAdd (e2 dAdd (Rs.ok (.str "pair ")) (e2 dMul (Rs.ok (.str ".")) (eVar 0 δ))) (Rs.ok (.str " "))) (e2 dMul (Rs.ok (.str "-")) (eVar 0 δ))) (Rs.ok [])))).bind noD)))) (sSeq (sSet 7 (xB fun δ => (e2 dAdd ((aCons (eVar 0 δ) (aCons (eSl (eVar 1 δ) (Rs.ok none) (oPart (Rs.ok (.int 7)))) (aCons (e2 dAdd (Rs.ok (.int 7)) (eCb cInt (aCons (e2 dEq (e2 dIx (eVar 3 δ) (Rs.ok (.int 0))) (Rs.ok (.int 0))) (Rs.ok [])))) (Rs.ok [])))).bind (m__law_full c)) (((eLc [10] (cN 10) cTrue (le__law_notes_3 c) δ (iRg rng1 (aCons (e2 dAdd (Rs.ok (.int 3)) (e2 dIx (eVar 3 δ) (Rs.ok (.int 1)))) (Rs.ok []))))).bind noD)))) (sSeq (sSet 8 (xB fun δ => ((aCons (eVar 0 δ) (aCons (eVar 1 δ) (aCons (e2 dAdd (Rs.ok (.int 24)) (e2 dIx (eVar 3 δ) (Rs.ok (.int 2)))) (Rs.ok [])))).bind (m__law_full c)))) (sRet (rB fun δ => (((nLst (aCons (((nLst (aCons (eMb "str" mJoin (Rs.ok (.str "\n")) (aCons (eVar 4 δ) (Rs.ok []))) (aCons (eMb "str" mJoin (Rs.ok (.str "\n")) (aCons (eVar 5 δ) (Rs.ok []))) (Rs.ok []))))).bind noD) (aCons (((nLst (aCons (eMb "str" mJoin (Rs.ok (.str "\n")) (aCons (eVar 8 δ) (Rs.ok []))) (aCons (eMb "str" mJoin (Rs.ok (.str "\n")) (aCons (eVar 7 δ) (Rs.ok []))) (Rs.ok []))))).bind noD) (Rs.ok []))))).bind noD))))))))
def m__law_notes (c : Ad) : List D → Rs D := fnD 11 4 (mm__law_notes c)
abbrev s__law_further : Stmt := top 70
theorem sc__law_further : FnScope ["_law_size", "_law_taken", "_law_name_here", "_law_dots", "_law_lines"] ["_law_size", "_law_taken"] (defScope s__law_further) := ⟨rfl, rfl, rfl, by decide +kernel, rfl, by decide +kernel, by decide +kernel⟩
def mm__law_further (c : Ad) : S → Out :=
  (sSeq (sSet 2 (xB fun δ => ((aCons (Rs.ok (.str "zz")) (aCons (eVar 1 δ) (Rs.ok []))).bind (m__law_fresh c)))) (sSeq (sSet 3 (xB fun δ => (e2 dMul (Rs.ok (.str ".")) (eVar 0 δ)))) (sSeq (sSet 4 (xB fun δ => (((nLst (aCons (e2 dAdd (e2 dAdd (eVar 2 δ) (Rs.ok (.str " "))) (eVar 3 δ)) (aCons (e2 dAdd (e2 dAdd (eVar 2 δ) (Rs.ok (.str " "))) (e2 dMul (Rs.ok (.str "-")) (eVar 0 δ))) (aCons (e2 dAdd (e2 dAdd (e2 dAdd (eVar 2 δ) (Rs.ok (.str " "))) (eVar 3 δ)) (Rs.ok (.str "."))) (aCons (e2 dAdd (e2 dAdd (eVar 2 δ) (Rs.ok (.str " "))) (eSl (eVar 3 δ) (oPart (Rs.ok (.int 1))) (Rs.ok none))) (aCons (eVar 2 δ) (aCons (Rs.ok (.str "pair")) (Rs.ok []))))))))).bind noD))) (sSeq (sSet 4 (xB fun δ => (e2 dAdd (eVar 4 δ) (((nLst (aCons (e2 dAdd (e2 dAdd (eVar 2 δ) (Rs.ok (.str "  "))) (eVar 3 δ)) (aCons (e2 dAdd (e2 dAdd (eMb "str" mUpper (eVar 2 δ) (Rs.ok [])) (Rs.ok (.str " "))) (eVar 3 δ)) (aCons (e2 dAdd (e2 dAdd (e2 dAdd (Rs.ok (.str "1")) (eVar 2 δ)) (Rs.ok (.str " "))) (eVar 3 δ)) (aCons (e2 dAdd (e2 dAdd (e2 dAdd (e2 dAdd (eVar 2 δ) (Rs.ok (.str " "))) (eVar 3 δ)) (Rs.ok (.str " "))) (eVar 3 δ)) (Rs.ok []))))))).bind noD)))) (sSeq (sSet 4 (xB fun δ => (e2 dAdd (eVar 4 δ) (((nLst (aCons (e2 dAdd (e2 dAdd (e2 dAdd (Rs.ok (.str "pair ")) (eVar 3 δ)) (Rs.ok (.str " "))) (eVar 3 δ)) (aCons (e2 dAdd (Rs.ok (.str "pair ")) (eVar 3 δ)) (aCons (e2 dAdd (Rs.ok (.str "pair  ")) (eVar 3 δ)) (aCons (e2 dAdd (e2 dAdd (e2 dAdd (e2 dAdd (Rs.ok (.str "pair ")) (eVar 3 δ)) (Rs.ok (.str " "))) (eVar 3 δ)) (Rs.ok (.str "a"))) (Rs.ok []))))))).bind noD)))) (sRet (rB fun δ => (e2 dAdd (eVar 4 δ) (((nLst (aCons (e2 dAdd (e2 dAdd (e2 dAdd (Rs.ok (.str "Pair ")) (eVar 3 δ)) (Rs.ok (.str " "))) (eVar 3 δ)) (aCons (e2 dAdd (e2 dAdd (e2 dAdd (Rs.ok (.str "pair ")) (e2 dMul (Rs.ok (.str "-")) (eVar 0 δ))) (Rs.ok (.str " "))) (eVar 3 δ)) (Rs.ok []))))).bind noD)))))))))
def m__law_further (c : Ad) : List D → Rs D := fnD 5 2 (mm__law_further c)
abbrev s__law_firsts : Stmt := top 69
theorem sc__law_firsts : FnScope ["_law_size", "_law_firsts_here"] ["_law_size"] (defScope s__law_firsts) := ⟨rfl, rfl, rfl, by decide +kernel, rfl, by decide +kernel, by decide +kernel⟩
def mm__law_firsts (c : Ad) : S → Out :=
  (sSeq (sSet 1 (xB fun δ => (((nLst (aCons (Rs.ok (.str "stock 0")) (aCons (Rs.ok (.str "stock 31")) (aCons (Rs.ok (.str "stock 03")) (aCons (Rs.ok (.str "stock")) (aCons (Rs.ok (.str "stock ")) (aCons (Rs.ok (.str "Stock 3")) (aCons (Rs.ok (.str "stock -3")) (aCons (Rs.ok (.str "stock +3")) (aCons (Rs.ok (.str "stock 3.0")) (Rs.ok [])))))))))))).bind noD))) (sSeq (sSet 1 (xB fun δ => (e2 dAdd (eVar 1 δ) (((nLst (aCons (Rs.ok (.str "stock  3")) (aCons (Rs.ok (.str " stock 3")) (aCons (Rs.ok (.str "stocks 3")) (aCons (e2 dAdd (Rs.ok (.str "stock ")) (e2 dMul (Rs.ok (.str "1")) (Rs.ok (.int 40)))) (aCons (Rs.ok (.str "stock 3 3")) (aCons (Rs.ok (.str "")) (aCons (Rs.ok (.str "stock three")) (Rs.ok [])))))))))).bind noD)))) (sSeq (sSet 1 (xB fun δ => (e2 dAdd (eVar 1 δ) (((nLst (aCons (Rs.ok (.str "stock 30")) (aCons (Rs.ok (.str "stock 1")) (aCons (e2 dAdd (e2 dAdd (Rs.ok (.str "stock ")) (eCb cStr (aCons (eVar 0 δ) (Rs.ok [])))) (Rs.ok (.str " "))) (aCons (e2 dAdd (Rs.ok (.str "box ")) (eCb cStr (aCons (eVar 0 δ) (Rs.ok [])))) (Rs.ok []))))))).bind noD)))) (sRet (rB fun δ => (e2 dAdd (eVar 1 δ) (((nLst (aCons (e2 dAdd (e2 dAdd (e2 dAdd (Rs.ok (.str "pair ")) (e2 dMul (Rs.ok (.str ".")) (eVar 0 δ))) (Rs.ok (.str " "))) (e2 dMul (Rs.ok (.str ".")) (eVar 0 δ))) (Rs.ok [])))).bind noD)))))))
def m__law_firsts (c : Ad) : List D → Rs D := fnD 2 1 (mm__law_firsts c)
abbrev s__law_digits : Stmt := top 51
theorem sc__law_digits : FnScope ["_law_cell_here", "_law_sizes", "_law_row", "_law_rest", "_law_size", "_law_seed", "_law_k", "_law_twice"] ["_law_cell_here", "_law_sizes"] (defScope s__law_digits) := ⟨rfl, rfl, rfl, by decide +kernel, rfl, by decide +kernel, by decide +kernel⟩
def lb__law_digits_1 (c : Ad) : S → Out :=
  (sSeq (sApp (xC 2) (xB fun δ => (e2 dMod (eCb cInt (aCons (eVar 3 δ) (Rs.ok []))) (eVar 4 δ)))) (sSet 3 (xB fun δ => (e2 dDiv (eCb cInt (aCons (eVar 3 δ) (Rs.ok []))) (eVar 4 δ)))))
def lp__law_digits_1 (c : Ad) : S → Out := sFor (fun δ => (iItems (eVar 1 δ))) (gN 4) (lb__law_digits_1 c)
def lb__law_digits_2 (c : Ad) : S → Out :=
  (sSeq (sSet 5 (xB fun δ => (e2 dMod (eCb cInt (aCons (e2 dAdd (e2 dAdd (e2 dMul (eVar 5 δ) (Rs.ok (.int 48271))) (e2 dMul (Rs.ok (.int 974711)) (eVar 6 δ))) (Rs.ok (.int 12345))) (Rs.ok []))) (Rs.ok (.int 2147483647))))) (sSeq (sSet 7 (xB fun δ => (e2 dMod (eCb cInt (aCons (e2 dMul (eVar 5 δ) (e2 dAdd (e2 dDiv (eVar 5 δ) (Rs.ok (.int 65537))) (Rs.ok (.int 3)))) (Rs.ok []))) (Rs.ok (.int 2147483629))))) (sApp (xC 2) (xB fun δ => (e2 dMod (e2 dDiv (eVar 7 δ) (Rs.ok (.int 19))) (e2 dIx (eVar 1 δ) (eVar 6 δ)))))))
def lp__law_digits_2 (c : Ad) : S → Out := sFor (fun δ => (iRg rng1 (aCons (eCb cLen (aCons (eVar 1 δ) (Rs.ok []))) (Rs.ok [])))) (gN 6) (lb__law_digits_2 c)
def mm__law_digits (c : Ad) : S → Out :=
  (sSeq (sNew 2 (nB fun δ => (nLst (Rs.ok [])))) (sSeq (sSet 3 (xB fun δ => (eCb cInt (aCons (eVar 0 δ) (Rs.ok []))))) (sSeq (sIf (tBs fun δ => ((e2 dGe (eVar 3 δ) (e2 dPow (Rs.ok (.int 10)) (Rs.ok (.int 18)))).bind toB)) (sSeq (sSet 3 (xB fun δ => (e2 dSub (eVar 3 δ) (e2 dPow (Rs.ok (.int 10)) (Rs.ok (.int 18)))))) (sSeq (lp__law_digits_1 c) (sRet (rV fun δ => (eVar 2 δ))))) sNil) (sSeq (sSet 5 (xB fun δ => (e2 dMod (eCb cInt (aCons (eVar 3 δ) (Rs.ok []))) (Rs.ok (.int 2147483629))))) (sSeq (lp__law_digits_2 c) (sSeq (sFrz 2) (sRet (rB fun δ => (eVar 2 δ)))))))))
def m__law_digits (c : Ad) : List D → Rs D := fnD 8 2 (mm__law_digits c)
abbrev s__law_signs : Stmt := top 59
theorem sc__law_signs : FnScope [] [] (defScope s__law_signs) := ⟨rfl, rfl, rfl, by decide +kernel, rfl, by decide +kernel, by decide +kernel⟩
def mm__law_signs (c : Ad) : S → Out :=
  (sRet (rB fun δ => (Rs.ok (.str " !\"#$&'()*+,-./0123456789:;<=>?\x40ABCDEFGHIJKLMNOPQRSTUVWXYZ[\\]^_`abcdefghijklmnopqrstuvwxyz{|}~\n"))))
def m__law_signs (c : Ad) : List D → Rs D := fnD 0 0 (mm__law_signs c)
abbrev s__law_free_text : Stmt := top 61
theorem sc__law_free_text : FnScope ["_law_cell_here", "_law_words", "_law_row", "_law_many", "_law_made", "_law_k"] ["_law_cell_here", "_law_words"] (defScope s__law_free_text) := ⟨rfl, rfl, rfl, by decide +kernel, rfl, by decide +kernel, by decide +kernel⟩
def lb__law_free_text_1 (c : Ad) : S → Out :=
  (sIf (tBs fun δ => ((e2 dLt (e2 dIx (eVar 2 δ) (e2 dAdd (Rs.ok (.int 1)) (eVar 5 δ))) (Rs.ok (.int 95))).bind toB)) (sSet 4 (xB fun δ => (e2 dAdd (eVar 4 δ) (e2 dIx ((Rs.ok []).bind (m__law_signs c)) (e2 dIx (eVar 2 δ) (e2 dAdd (Rs.ok (.int 1)) (eVar 5 δ))))))) (sSet 4 (xB fun δ => (e2 dAdd (eVar 4 δ) (e2 dIx (eVar 1 δ) (e2 dMod (eCb cInt (aCons (e2 dIx (eVar 2 δ) (e2 dAdd (Rs.ok (.int 1)) (eVar 5 δ))) (Rs.ok []))) (eCb cLen (aCons (eVar 1 δ) (Rs.ok [])))))))))
def lp__law_free_text_1 (c : Ad) : S → Out := sFor (fun δ => (iRg rng1 (aCons (eVar 3 δ) (Rs.ok [])))) (gN 5) (lb__law_free_text_1 c)
def mm__law_free_text (c : Ad) : S → Out :=
  (sSeq (sSet 2 (xB fun δ => ((aCons (eVar 0 δ) (aCons (e2 dAdd (((nLst (aCons (Rs.ok (.int 98)) (Rs.ok [])))).bind noD) (e2 dMul (((nLst (aCons (Rs.ok (.int 190)) (Rs.ok [])))).bind noD) (Rs.ok (.int 48)))) (Rs.ok []))).bind (m__law_digits c)))) (sSeq (sSet 3 (xB fun δ => (eCb cInt (aCons (e2 dIx (eVar 2 δ) (Rs.ok (.int 0))) (Rs.ok []))))) (sSeq (sIf (tBs fun δ => ((e2 dGt (eVar 3 δ) (Rs.ok (.int 48))).bind toB)) (sSet 3 (xB fun δ => (e2 dMod (eCb cInt (aCons (e2 dSub (eVar 3 δ) (Rs.ok (.int 49))) (Rs.ok []))) (Rs.ok (.int 7))))) sNil) (sSeq (sSet 4 (xB fun δ => (Rs.ok (.str "")))) (sSeq (lp__law_free_text_1 c) (sRet (rB fun δ => (eVar 4 δ))))))))
def m__law_free_text (c : Ad) : List D → Rs D := fnD 6 2 (mm__law_free_text c)
abbrev s__law_sign : Stmt := top 60
theorem sc__law_sign : FnScope ["_law_digit", "_law_near"] ["_law_digit"] (defScope s__law_sign) := ⟨rfl, rfl, rfl, by decide +kernel, rfl, by decide +kernel, by decide +kernel⟩
def mm__law_sign (c : Ad) : S → Out :=
  (sSeq (sSet 1 (xB fun δ => (Rs.ok (.str " \n-.0az9 \n-.0AZ_~`{/:\x40[ \n1|&()*,;+ 12")))) (sSeq (sIf (tBs fun δ => ((e2 dEq (e2 dMod (eCb cInt (aCons (eVar 0 δ) (Rs.ok []))) (Rs.ok (.int 2))) (Rs.ok (.int 0))).bind toB)) (sRet (rB fun δ => (e2 dIx (eVar 1 δ) (e2 dMod (eCb cInt (aCons (e2 dDiv (eVar 0 δ) (Rs.ok (.int 2))) (Rs.ok []))) (eCb cLen (aCons (eVar 1 δ) (Rs.ok []))))))) sNil) (sRet (rB fun δ => (e2 dIx ((Rs.ok []).bind (m__law_signs c)) (e2 dMod (eCb cInt (aCons (e2 dDiv (eVar 0 δ) (Rs.ok (.int 2))) (Rs.ok []))) (Rs.ok (.int 95))))))))
def m__law_sign (c : Ad) : List D → Rs D := fnD 2 1 (mm__law_sign c)
abbrev s__law_spoilt : Stmt := top 62
theorem sc__law_spoilt : FnScope ["_law_note", "_law_row", "_law_firsts_here", "_law_further_here", "_law_lines", "_law_at", "_law_which", "_law_other", "_law_kept"] ["_law_note", "_law_row", "_law_firsts_here", "_law_further_here"] (defScope s__law_spoilt) := ⟨rfl, rfl, rfl, by decide +kernel, rfl, by decide +kernel, by decide +kernel⟩
def mm__law_spoilt (c : Ad) : S → Out :=
  (sSeq (sNew 4 (nB fun δ => (nMb "str" mSplit (eVar 0 δ) (aCons (Rs.ok (.str "\n")) (Rs.ok []))))) (sSeq (sSet 5 (xB fun δ => (e2 dMod (eCb cInt (aCons (e2 dIx (eVar 1 δ) (Rs.ok (.int 1))) (Rs.ok []))) (e2 dAdd (eCb cLen (aCons (eVar 0 δ) (Rs.ok []))) (Rs.ok (.int 1)))))) (sSeq (sSet 6 (xV fun δ => (e2 dMod (eCb cInt (aCons (e2 dIx (eVar 1 δ) (Rs.ok (.int 1))) (Rs.ok []))) (eCb cLen (aCons (eVar 4 δ) (Rs.ok [])))))) (sSeq (sSet 7 (xV fun δ => (e2 dMod (eCb cInt (aCons (e2 dIx (eVar 1 δ) (Rs.ok (.int 2))) (Rs.ok []))) (eCb cLen (aCons (eVar 4 δ) (Rs.ok [])))))) (sSeq (sIf (tBs fun δ => ((e2 dLt (e2 dIx (eVar 1 δ) (Rs.ok (.int 0))) (Rs.ok (.int 3))).bind toB)) (sRet (rB fun δ => (e2 dAdd (e2 dAdd (eSl (eVar 0 δ) (Rs.ok none) (oPart (eVar 5 δ))) ((aCons (e2 dIx (eVar 1 δ) (Rs.ok (.int 3))) (Rs.ok [])).bind (m__law_sign c))) (eSl (eVar 0 δ) (oPart (eVar 5 δ)) (Rs.ok none))))) sNil) (sSeq (sIf (tBs fun δ => ((e2 dLt (e2 dIx (eVar 1 δ) (Rs.ok (.int 0))) (Rs.ok (.int 5))).bind toB)) (sRet (rB fun δ => (e2 dAdd (eSl (eVar 0 δ) (Rs.ok none) (oPart (eVar 5 δ))) (eSl (eVar 0 δ) (oPart (e2 dAdd (eVar 5 δ) (Rs.ok (.int 1)))) (Rs.ok none))))) sNil) (sSeq (sIf (tBs fun δ => ((e2 dLt (e2 dIx (eVar 1 δ) (Rs.ok (.int 0))) (Rs.ok (.int 8))).bind toB)) (sRet (rB fun δ => (e2 dAdd (e2 dAdd (eSl (eVar 0 δ) (Rs.ok none) (oPart (eVar 5 δ))) ((aCons (e2 dIx (eVar 1 δ) (Rs.ok (.int 3))) (Rs.ok [])).bind (m__law_sign c))) (eSl (eVar 0 δ) (oPart (e2 dAdd (eVar 5 δ) (Rs.ok (.int 1)))) (Rs.ok none))))) sNil) (sSeq (sIf (tBs fun δ => ((e2 dEq (e2 dIx (eVar 1 δ) (Rs.ok (.int 0))) (Rs.ok (.int 8))).bind toB)) (sIns (xC 4) (xB fun δ => (eVar 7 δ)) (xV fun δ => (e2 dIx (eVar 4 δ) (eVar 6 δ)))) sNil) (sSeq (sIf (tBs fun δ => ((e2 dEq (e2 dIx (eVar 1 δ) (Rs.ok (.int 0))) (Rs.ok (.int 9))).bind toB)) (sSeq (sSet 8 (xV fun δ => (e2 dIx (eVar 4 δ) (eVar 6 δ)))) (sSeq (sSetI (xC 4) (xB fun δ => (eVar 6 δ)) (xV fun δ => (e2 dIx (eVar 4 δ) (eVar 7 δ)))) (sSetI (xC 4) (xB fun δ => (eVar 7 δ)) (xB fun δ => (eVar 8 δ))))) sNil) (sSeq (sIf (tBs fun δ => ((e2 dEq (e2 dIx (eVar 1 δ) (Rs.ok (.int 0))) (Rs.ok (.int 10))).bind toB)) (sApp (xC 4) (xB fun δ => (Rs.ok (.str "")))) sNil) (sSeq (sIf (tBs fun δ => ((e2 dEq (e2 dIx (eVar 1 δ) (Rs.ok (.int 0))) (Rs.ok (.int 11))).bind toB)) (sSetI (xC 4) (xB fun δ => (eVar 6 δ)) (xV fun δ => (e2 dAdd (e2 dIx (eVar 4 δ) (eVar 6 δ)) (Rs.ok (.str " "))))) sNil) (sSeq (sIf (tBs fun δ => ((e2 dEq (e2 dIx (eVar 1 δ) (Rs.ok (.int 0))) (Rs.ok (.int 12))).bind toB)) (sSeq (sSetI (xC 4) (xB fun δ => (eVar 6 δ)) (xV fun δ => (e1 (dRepl " " "  ") (e2 dIx (eVar 4 δ) (eVar 6 δ))))) sNil) sNil) (sSeq (sIf (tBs fun δ => ((e2 dEq (e2 dIx (eVar 1 δ) (Rs.ok (.int 0))) (Rs.ok (.int 13))).bind toB)) (sPopI (xC 4) (xB fun δ => (eVar 6 δ)) fun _ s => s) sNil) (sSeq (sIf (tBs fun δ => ((e2 dEq (e2 dIx (eVar 1 δ) (Rs.ok (.int 0))) (Rs.ok (.int 14))).bind toB)) (sSetI (xC 4) (xB fun δ => (Rs.ok (.int 0))) (xB fun δ => (e2 dIx (eVar 2 δ) (e2 dMod (eCb cInt (aCons (e2 dIx (eVar 1 δ) (Rs.ok (.int 3))) (Rs.ok []))) (eCb cLen (aCons (eVar 2 δ) (Rs.ok []))))))) sNil) (sSeq (sIf (tBs fun δ => ((e2 dEq (e2 dIx (eVar 1 δ) (Rs.ok (.int 0))) (Rs.ok (.int 15))).bind toB)) (sIns (xC 4) (xB fun δ => (e2 dAdd (Rs.ok (.int 1)) (eVar 7 δ))) (xB fun δ => (Rs.ok (.str "")))) sNil) (sSeq (sIf (tBs fun δ => ((e2 dGt (e2 dIx (eVar 1 δ) (Rs.ok (.int 0))) (Rs.ok (.int 15))).bind toB)) (sApp (xC 4) (xB fun δ => (e2 dIx (eVar 3 δ) (e2 dMod (eCb cInt (aCons (e2 dIx (eVar 1 δ) (Rs.ok (.int 3))) (Rs.ok []))) (eCb cLen (aCons (eVar 3 δ) (Rs.ok []))))))) sNil) (sSeq (sFrz 4) (sRet (rB fun δ => (eMb "str" mJoin (Rs.ok (.str "\n")) (aCons (eVar 4 δ) (Rs.ok []))))))))))))))))))))))
def m__law_spoilt (c : Ad) : List D → Rs D := fnD 9 4 (mm__law_spoilt c)
abbrev s__law_cell : Stmt := top 50
theorem sc__law_cell : FnScope ["_law_script", "_law_k", "_law_seed", "_law_cell_here"] ["_law_script", "_law_k"] (defScope s__law_cell) := ⟨rfl, rfl, rfl, by decide +kernel, rfl, by decide +kernel, by decide +kernel⟩
def lb__law_cell_1 (c : Ad) : S → Out :=
  (sSet 2 (xB fun δ => (e2 dMod (eCb cInt (aCons (e2 dAdd (e2 dMul (eVar 2 δ) (Rs.ok (.int 31))) (e2 dMod (eCb cInt (aCons (eVar 3 δ) (Rs.ok []))) (Rs.ok (.int 1000003)))) (Rs.ok []))) (Rs.ok (.int 1000003)))))
def lp__law_cell_1 (c : Ad) : S → Out := sFor (fun δ => (iItems (eVar 0 δ))) (gN 3) (lb__law_cell_1 c)
def mm__law_cell (c : Ad) : S → Out :=
  (sSeq (sIf (tBs fun δ => ((e2 dLt (eVar 1 δ) (eCb cLen (aCons (eVar 0 δ) (Rs.ok [])))).bind toB)) (sRet (rB fun δ => (e2 dIx (eVar 0 δ) (eVar 1 δ)))) sNil) (sSeq (sSet 2 (xB fun δ => (Rs.ok (.int 17)))) (sSeq (lp__law_cell_1 c) (sRet (rB fun δ => (e2 dMod (eCb cInt (aCons (e2 dMul (e2 dMul (e2 dAdd (eVar 2 δ) (Rs.ok (.int 7))) (e2 dAdd (eVar 1 δ) (Rs.ok (.int 3)))) (Rs.ok (.int 69621))) (Rs.ok []))) (Rs.ok (.int 2147483647))))))))
def m__law_cell (c : Ad) : List D → Rs D := fnD 4 2 (mm__law_cell c)
abbrev s__law_name : Stmt := top 53
theorem sc__law_name : FnScope ["_law_row", "_law_letters", "_law_k"] ["_law_row"] (defScope s__law_name) := ⟨rfl, rfl, rfl, by decide +kernel, rfl, by decide +kernel, by decide +kernel⟩
def le__law_name_1 (c : Ad) (δ : Dv) : Rs D := (e2 dIx (e2 dAdd (eVar 1 δ) (Rs.ok (.str "0123456789"))) (e2 dIx (eVar 0 δ) (e2 dAdd (Rs.ok (.int 3)) (eVar 2 δ))))
def mm__law_name (c : Ad) : S → Out :=
  (sSeq (sSet 1 (xB fun δ => (Rs.ok (.str "abcdefghijklmnopqrstuvwxyz")))) (sSeq (sIf (tBs fun δ => ((e2 dEq (e2 dIx (eVar 0 δ) (Rs.ok (.int 0))) (Rs.ok (.int 0))).bind toB)) (sRet (rB fun δ => (e2 dIx (((nLst (aCons (Rs.ok (.str "stock")) (aCons (Rs.ok (.str "pair")) (aCons (Rs.ok (.str "look")) (aCons (Rs.ok (.str "rows")) (aCons (Rs.ok (.str "press")) (aCons (Rs.ok (.str "used")) (aCons (Rs.ok (.str "top")) (aCons (Rs.ok (.str "bare")) (Rs.ok []))))))))))).bind noD) (e2 dIx (eVar 0 δ) (Rs.ok (.int 1)))))) sNil) (sRet (rB fun δ => (e2 dAdd (e2 dIx (eVar 1 δ) (e2 dIx (eVar 0 δ) (Rs.ok (.int 2)))) (eMb "str" mJoin (Rs.ok (.str "")) (aCons (((eLc [2] (cN 2) cTrue (le__law_name_1 c) δ (iRg rng1 (aCons (e2 dIx (eVar 0 δ) (Rs.ok (.int 1))) (Rs.ok []))))).bind noD) (Rs.ok []))))))))
def m__law_name (c : Ad) : List D → Rs D := fnD 3 1 (mm__law_name c)
abbrev s__law_any_stamp : Stmt := top 57
theorem sc__law_any_stamp : FnScope ["_law_row", "_law_size", "_law_alls", "_law_made", "_law_at", "_law_k"] ["_law_row", "_law_size"] (defScope s__law_any_stamp) := ⟨rfl, rfl, rfl, by decide +kernel, rfl, by decide +kernel, by decide +kernel⟩
def le__law_any_stamp_1 (c : Ad) (δ : Dv) : Rs D := (e2 dIx (e2 dAdd (eVar 2 δ) (e2 dMul (Rs.ok (.str "-")) (Rs.ok (.int 27)))) (e2 dMod (eCb cInt (aCons (e2 dIx (eVar 0 δ) (eVar 5 δ)) (Rs.ok []))) (Rs.ok (.int 54))))
def mm__law_any_stamp (c : Ad) : S → Out :=
  (sSeq (sSet 2 (xB fun δ => (Rs.ok (.str ".abcdefghijklmnopqrstuvwxyz")))) (sSeq (sSet 3 (xB fun δ => (eMb "str" mJoin (Rs.ok (.str "")) (aCons (((eLc [5] (cN 5) cTrue (le__law_any_stamp_1 c) δ (iRg rng1 (aCons (eVar 1 δ) (Rs.ok []))))).bind noD) (Rs.ok []))))) (sSeq (sIf (tBs fun δ => ((e2 dEq (eVar 3 δ) (e2 dMul (Rs.ok (.str "-")) (eVar 1 δ))).bind toB)) (sSeq (sSet 4 (xB fun δ => (e2 dMod (eCb cInt (aCons (eCb cSum (aCons (eVar 0 δ) (Rs.ok []))) (Rs.ok []))) (eVar 1 δ)))) (sSet 3 (xB fun δ => (e2 dAdd (e2 dAdd (eSl (eVar 3 δ) (Rs.ok none) (oPart (eVar 4 δ))) (e2 dIx (eVar 2 δ) (e2 dMod (eCb cInt (aCons (e2 dIx (eVar 0 δ) (Rs.ok (.int 0))) (Rs.ok []))) (Rs.ok (.int 27))))) (eSl (eVar 3 δ) (oPart (e2 dAdd (eVar 4 δ) (Rs.ok (.int 1)))) (Rs.ok none)))))) sNil) (sRet (rB fun δ => (eVar 3 δ))))))
def m__law_any_stamp (c : Ad) : List D → Rs D := fnD 6 2 (mm__law_any_stamp c)
abbrev s__law_stamps : Stmt := top 58
theorem sc__law_stamps : FnScope ["_law_script", "_law_at", "_law_many", "_law_size", "_law_stamps_here", "_law_k", "_law_row", "_law_name_here", "_law_stamp"] ["_law_script", "_law_at", "_law_many", "_law_size"] (defScope s__law_stamps) := ⟨rfl, rfl, rfl, by decide +kernel, rfl, by decide +kernel, by decide +kernel⟩
def le__law_stamps_1 (c : Ad) (δ : Dv) : Rs D := (e2 dIx (eVar 8 δ) (Rs.ok (.int 0)))
def lb__law_stamps_1 (c : Ad) : S → Out :=
  (sSeq (sSet 6 (xB fun δ => ((aCons ((aCons (eVar 0 δ) (aCons (e2 dAdd (eVar 1 δ) (eVar 5 δ)) (Rs.ok []))).bind (m__law_cell c)) (aCons (e2 dAdd (e2 dAdd (((nLst (aCons (Rs.ok (.int 12)) (aCons (Rs.ok (.int 8)) (aCons (Rs.ok (.int 26)) (Rs.ok [])))))).bind noD) (e2 dMul (((nLst (aCons (Rs.ok (.int 36)) (Rs.ok [])))).bind noD) (Rs.ok (.int 7)))) (e2 dMul (((nLst (aCons (Rs.ok (.int 54)) (Rs.ok [])))).bind noD) (eVar 3 δ))) (Rs.ok []))).bind (m__law_digits c)))) (sSeq (sSet 7 (xV fun δ => ((aCons ((aCons (eVar 6 δ) (Rs.ok [])).bind (m__law_name c)) (aCons (((eLc [8] (cN 8) cTrue (le__law_stamps_1 c) δ (iItems (eVar 4 δ)))).bind noD) (Rs.ok []))).bind (m__law_fresh c)))) (sAppN (xC 4) fun δ => (nLst (aCons (eVar 7 δ) (aCons ((aCons (eSl (eVar 6 δ) (oPart (Rs.ok (.int 10))) (Rs.ok none)) (aCons (eVar 3 δ) (Rs.ok []))).bind (m__law_any_stamp c)) (Rs.ok [])))))))
def lp__law_stamps_1 (c : Ad) : S → Out := sFor (fun δ => (iRg rng1 (aCons (eVar 2 δ) (Rs.ok [])))) (gN 5) (lb__law_stamps_1 c)
def mm__law_stamps (c : Ad) : S → Out :=
  (sSeq (sNew 4 (nB fun δ => (nLst (Rs.ok [])))) (sSeq (lp__law_stamps_1 c) (sRetC 4)))
def m__law_stamps (c : Ad) : List D → Rs Gr := fnC 9 4 (mm__law_stamps c)
abbrev s__law_layer : Stmt := top 68
theorem sc__law_layer : FnScope ["_law_row", "_law_size", "_law_k"] ["_law_row", "_law_size"] (defScope s__law_layer) := ⟨rfl, rfl, rfl, by decide +kernel, rfl, by decide +kernel, by decide +kernel⟩
def le__law_layer_1 (c : Ad) (δ : Dv) : Rs D := (e2 dIx (e2 dAdd (Rs.ok (.str ".abcdefghijklmnopqrstuvwxyz")) (e2 dMul (Rs.ok (.str "-")) (Rs.ok (.int 27)))) (e2 dMod (eCb cInt (aCons (e2 dIx (eVar 0 δ) (eVar 2 δ)) (Rs.ok []))) (Rs.ok (.int 54))))
def mm__law_layer (c : Ad) : S → Out :=
  (sRet (rB fun δ => (eMb "str" mJoin (Rs.ok (.str "")) (aCons (((eLc [2] (cN 2) cTrue (le__law_layer_1 c) δ (iRg rng1 (aCons (eVar 1 δ) (Rs.ok []))))).bind noD) (Rs.ok [])))))
def m__law_layer (c : Ad) : List D → Rs D := fnD 3 2 (mm__law_layer c)
abbrev s_law : Stmt := top 73
theorem sc_law : FnScope ["_law_script", "_law_head", "_law_size", "_law_many", "_law_stamps_here", "_law_called", "_law_pairs", "_law_k", "_law_row", "_law_notes_here", "_law_built", "_law_told_here", "_law_further_here", "_law_note", "_law_turn", "_law_words", "_law_stamp", "_law_pair"] ["_law_script"] (defScope s_law) := ⟨rfl, rfl, rfl, by decide +kernel, rfl, by decide +kernel, by decide +kernel⟩
def le_law_1 (c : Ad) (δ : Dv) : Rs D := (e2 dIx (eVar 16 δ) (Rs.ok (.int 0)))
def lb_law_1 (c : Ad) : S → Out :=
  (sSeq (sSet 8 (xB fun δ => ((aCons ((aCons (eVar 0 δ) (aCons (e2 dAdd (Rs.ok (.int 25)) (eVar 7 δ)) (Rs.ok []))).bind (m__law_cell c)) (aCons (e2 dMul (e2 dMul (((nLst (aCons (Rs.ok (.int 54)) (Rs.ok [])))).bind noD) (eVar 2 δ)) (Rs.ok (.int 2))) (Rs.ok []))).bind (m__law_digits c)))) (sApp (xC 6) (xB fun δ => (((nLst (aCons ((aCons (eVar 8 δ) (aCons (eVar 2 δ) (Rs.ok []))).bind (m__law_layer c)) (aCons ((aCons (eSl (eVar 8 δ) (oPart (eVar 2 δ)) (Rs.ok none)) (aCons (eVar 2 δ) (Rs.ok []))).bind (m__law_layer c)) (Rs.ok []))))).bind noD))))
def lp_law_1 (c : Ad) : S → Out := sFor (fun δ => (iRg rng1 (aCons (e2 dIx (eVar 1 δ) (Rs.ok (.int 2))) (Rs.ok [])))) (gN 7) (lb_law_1 c)
def le_law_2 (c : Ad) (δ : Dv) : Rs D := (((nCb cList (aCons (eVar 16 δ) (Rs.ok [])))).bind noD)
def le_law_3 (c : Ad) (δ : Dv) : Rs D := (((nCb cList (aCons (eVar 17 δ) (Rs.ok [])))).bind noD)
def le_law_4 (c : Ad) (δ : Dv) : Rs D := (((nCb cList (aCons (eVar 16 δ) (Rs.ok [])))).bind noD)
def lb_law_2 (c : Ad) : S → Out :=
  (sIf (tBs fun δ => (bOr (bNot (((aCons (e2 dIx (e2 dIx (eVar 9 δ) (Rs.ok (.int 0))) (eVar 7 δ)) (aCons (e2 dEq (e2 dIx (eVar 1 δ) (Rs.ok (.int 5))) (eVar 7 δ)) (Rs.ok []))).bind (m__law_asked c)).bind toB)) (bNot (((aCons (e2 dIx (e2 dIx (eVar 9 δ) (Rs.ok (.int 1))) (eVar 7 δ)) (aCons (e2 dNe (e2 dIx (eVar 1 δ) (Rs.ok (.int 5))) (eVar 7 δ)) (Rs.ok []))).bind (m__law_asked c)).bind toB)))) (sRet (rB fun δ => (Rs.ok (.bl false)))) sNil)
def lp_law_2 (c : Ad) : S → Out := sFor (fun δ => (iRg rng1 (aCons (Rs.ok (.int 2)) (Rs.ok [])))) (gN 7) (lb_law_2 c)
def le_law_5 (c : Ad) (δ : Dv) : Rs D := (e2 dIx (eVar 16 δ) (Rs.ok (.int 0)))
def lb_law_3 (c : Ad) : S → Out :=
  (sSeq (sSet 8 (xB fun δ => ((aCons ((aCons (eVar 0 δ) (aCons (e2 dAdd (e2 dAdd (Rs.ok (.int 29)) (e2 dMul (Rs.ok (.int 3)) (eVar 7 δ))) (eVar 14 δ)) (Rs.ok []))).bind (m__law_cell c)) (aCons (((nLst (aCons (Rs.ok (.int 18)) (aCons (Rs.ok (.int 3000)) (aCons (Rs.ok (.int 3000)) (aCons (Rs.ok (.int 200)) (Rs.ok []))))))).bind noD) (Rs.ok []))).bind (m__law_digits c)))) (sSet 13 (xB fun δ => ((aCons (eVar 13 δ) (aCons (eVar 8 δ) (aCons ((aCons (eVar 2 δ) (Rs.ok [])).bind (m__law_firsts c)) (aCons (eVar 12 δ) (Rs.ok []))))).bind (m__law_spoilt c)))))
def lp_law_3 (c : Ad) : S → Out := sFor (fun δ => (iRg rng1 (aCons (e2 dAdd (Rs.ok (.int 1)) (e2 dIx (eVar 1 δ) (e2 dAdd (Rs.ok (.int 9)) (eVar 7 δ)))) (Rs.ok [])))) (gN 14) (lb_law_3 c)
def lb_law_4 (c : Ad) : S → Out :=
  (sSeq (sSet 13 (xB fun δ => (e2 dIx (e2 dIx (eVar 9 δ) (Rs.ok (.int 0))) (e2 dDiv (eVar 7 δ) (Rs.ok (.int 5)))))) (sSeq (lp_law_3 c) (sIf (tBs fun δ => (bNot (((aCons (eVar 13 δ) (aCons (e2 dEq (e2 dMod (eCb cInt (aCons (e2 dAdd (eVar 7 δ) (e2 dIx (eVar 1 δ) (Rs.ok (.int 5)))) (Rs.ok []))) (Rs.ok (.int 2))) (Rs.ok (.int 1))) (Rs.ok []))).bind (m__law_asked c)).bind toB))) (sRet (rB fun δ => (Rs.ok (.bl false)))) sNil)))
def lp_law_4 (c : Ad) : S → Out := sFor (fun δ => (iRg rng1 (aCons (Rs.ok (.int 10)) (Rs.ok [])))) (gN 7) (lb_law_4 c)
def lb_law_5 (c : Ad) : S → Out :=
  (sIf (tBs fun δ => (bNot (((aCons ((aCons ((aCons (eVar 0 δ) (aCons (e2 dAdd (Rs.ok (.int 59)) (eVar 7 δ)) (Rs.ok []))).bind (m__law_cell c)) (aCons (eVar 15 δ) (Rs.ok []))).bind (m__law_free_text c)) (aCons (e2 dEq (e2 dMod (eVar 7 δ) (Rs.ok (.int 2))) (Rs.ok (.int 1))) (Rs.ok []))).bind (m__law_asked c)).bind toB))) (sRet (rB fun δ => (Rs.ok (.bl false)))) sNil)
def lp_law_5 (c : Ad) : S → Out := sFor (fun δ => (iRg rng1 (aCons (Rs.ok (.int 4)) (Rs.ok [])))) (gN 7) (lb_law_5 c)
def mm_law (c : Ad) : S → Out :=
  (sSeq (sSet 1 (xB fun δ => ((aCons ((aCons (eVar 0 δ) (aCons (Rs.ok (.int 0)) (Rs.ok []))).bind (m__law_cell c)) (aCons (e2 dAdd (((nLst (aCons (Rs.ok (.int 12)) (aCons (Rs.ok (.int 12)) (aCons (Rs.ok (.int 5)) (aCons (Rs.ok (.int 3)) (aCons (Rs.ok (.int 7)) (aCons (Rs.ok (.int 2)) (aCons (Rs.ok (.int 3)) (aCons (Rs.ok (.int 3)) (aCons (Rs.ok (.int 2)) (Rs.ok [])))))))))))).bind noD) (e2 dMul (((nLst (aCons (Rs.ok (.int 3)) (Rs.ok [])))).bind noD) (Rs.ok (.int 10)))) (Rs.ok []))).bind (m__law_digits c)))) (sSeq (sSet 2 (xB fun δ => (e2 dIx (((nLst (aCons (Rs.ok (.int 3)) (aCons (Rs.ok (.int 1)) (aCons (Rs.ok (.int 5)) (aCons (Rs.ok (.int 2)) (aCons (Rs.ok (.int 30)) (aCons (Rs.ok (.int 8)) (aCons (Rs.ok (.int 4)) (aCons (Rs.ok (.int 12)) (aCons (Rs.ok (.int 29)) (aCons (Rs.ok (.int 3)) (aCons (Rs.ok (.int 6)) (aCons (Rs.ok (.int 17)) (Rs.ok []))))))))))))))).bind noD) (e2 dIx (eVar 1 δ) (Rs.ok (.int 0)))))) (sSeq (sSet 3 (xB fun δ => (e2 dIx (((nLst (aCons (Rs.ok (.int 3)) (aCons (Rs.ok (.int 1)) (aCons (Rs.ok (.int 2)) (aCons (Rs.ok (.int 0)) (aCons (Rs.ok (.int 4)) (aCons (Rs.ok (.int 24)) (aCons (Rs.ok (.int 5)) (aCons (Rs.ok (.int 2)) (aCons (Rs.ok (.int 9)) (aCons (Rs.ok (.int 24)) (aCons (Rs.ok (.int 23)) (aCons (Rs.ok (.int 7)) (Rs.ok []))))))))))))))).bind noD) (e2 dIx (eVar 1 δ) (Rs.ok (.int 1)))))) (sSeq (sSetC 4 (fun δ => (aCons (eVar 0 δ) (aCons (Rs.ok (.int 1)) (aCons (eVar 3 δ) (aCons (eVar 2 δ) (Rs.ok [])))))) (m__law_stamps c)) (sSeq (sIf (tAndS (tBs fun δ => ((e2 dEq (e2 dIx (eVar 1 δ) (Rs.ok (.int 3))) (Rs.ok (.int 0))).bind toB)) (tAndS (tBs fun δ => ((e2 dGt (eVar 3 δ) (Rs.ok (.int 0))).bind toB)) (tVs fun δ => ((e2 dNotIn (Rs.ok (.str "pair")) (((eLc [16] (cN 16) cTrue (le_law_1 c) δ (iItems (eVar 4 δ)))).bind noD)).bind toB)))) (sSeq (sSetIx 5 (xC 4) (xB fun δ => (e2 dMod (eCb cInt (aCons (e2 dIx (eVar 1 δ) (Rs.ok (.int 4))) (Rs.ok []))) (eCb cMin2 (aCons (Rs.ok (.int 7)) (aCons (eVar 3 δ) (Rs.ok []))))))) (sSetI (xC 5) (xB fun δ => (Rs.ok (.int 0))) (xB fun δ => (Rs.ok (.str "pair"))))) sNil) (sSeq (sFrzD 4) (sSeq (sNew 6 (nB fun δ => (nLst (Rs.ok [])))) (sSeq (lp_law_1 c) (sSeq (sFrz 6) (sSeq (sSet 9 (xB fun δ => ((aCons (eVar 2 δ) (aCons (eVar 4 δ) (aCons (eVar 6 δ) (aCons (eSl (eVar 1 δ) (oPart (Rs.ok (.int 6))) (oPart (Rs.ok (.int 9)))) (Rs.ok []))))).bind (m__law_notes c)))) (sSeq (sSet 10 (xB fun δ => (eMake c.Stock (m_Stock___init__ c) (aCons (eVar 2 δ) (aCons (((eLc [16] (cN 16) cTrue (le_law_2 c) δ (iItems (eVar 4 δ)))).bind noD) (Rs.ok [])))))) (sSeq (sSet 11 (xB fun δ => (eMake c.Box (m_Box___init__ c) (aCons (eMake c.Stock (m_Stock___init__ c) (aCons (eVar 2 δ) (aCons (((eLc [16] (cN 16) cTrue (le_law_4 c) δ (iItems (eSl (eVar 4 δ) (Rs.ok none) (oPart (Rs.ok (.int 7))))))).bind noD) (Rs.ok [])))) (aCons (((eLc [17] (cN 17) cTrue (le_law_3 c) δ (iItems (eVar 6 δ)))).bind noD) (Rs.ok [])))))) (sSeq (sIf (tBs fun δ => (bOr (bNot (((aCons ((aCons (eVar 10 δ) (Rs.ok [])).bind (m_format_stock c)) (aCons (e2 dIx (e2 dIx (eVar 9 δ) (Rs.ok (.int 0))) (Rs.ok (.int 0))) (Rs.ok []))).bind (m__law_alike c 4)).bind toB)) (bNot (((aCons ((aCons (eVar 11 δ) (Rs.ok [])).bind (m_format_box c)) (aCons (e2 dIx (e2 dIx (eVar 9 δ) (Rs.ok (.int 0))) (Rs.ok (.int 1))) (Rs.ok []))).bind (m__law_alike c 4)).bind toB)))) (sRet (rB fun δ => (Rs.ok (.bl false)))) sNil) (sSeq (lp_law_2 c) (sSeq (sSet 12 (xB fun δ => ((aCons (eVar 2 δ) (aCons (((eLc [16] (cN 16) cTrue (le_law_5 c) δ (iItems (eVar 4 δ)))).bind noD) (Rs.ok []))).bind (m__law_further c)))) (sSeq (lp_law_4 c) (sSeq (sSet 15 (xB fun δ => (((nLst (aCons (Rs.ok (.str "stock ")) (aCons (Rs.ok (.str "stock 1")) (aCons (Rs.ok (.str "stock 2")) (aCons (Rs.ok (.str "\n")) (aCons (Rs.ok (.str " ")) (aCons (Rs.ok (.str "3")) (aCons (Rs.ok (.str "\na1 ")) (aCons (Rs.ok (.str ".-")) (aCons (Rs.ok (.str "b ")) (aCons (Rs.ok (.str "--")) (aCons (Rs.ok (.str "a")) (aCons (Rs.ok (.str "")) (aCons (Rs.ok (.str "12")) (aCons (Rs.ok (.str "\nb .")) (aCons (Rs.ok (.str "pair ")) (aCons (Rs.ok (.str "\npair . -")) (Rs.ok []))))))))))))))))))).bind noD))) (sSeq (sSet 15 (xB fun δ => (e2 dAdd (eVar 15 δ) (((nLst (aCons (Rs.ok (.str "\npair .. -a")) (aCons (Rs.ok (.str "\na1 .-")) (Rs.ok []))))).bind noD)))) (sSeq (lp_law_5 c) (sSeq (sIf (tBs fun δ => (bOr (bNot (((aCons (eCallN 0 1 (m_format_stock c) (Rs.ok []) (aCons (eVar 10 δ) (Rs.ok []))) (aCons (e2 dIx (e2 dIx (eVar 9 δ) (Rs.ok (.int 0))) (Rs.ok (.int 0))) (Rs.ok []))).bind (m__law_alike c 4)).bind toB)) (bNot (((aCons (eCallN 0 1 (m_format_box c) (Rs.ok []) (aCons (eVar 11 δ) (Rs.ok []))) (aCons (e2 dIx (e2 dIx (eVar 9 δ) (Rs.ok (.int 0))) (Rs.ok (.int 1))) (Rs.ok []))).bind (m__law_alike c 4)).bind toB)))) (sRet (rB fun δ => (Rs.ok (.bl false)))) sNil) (sRet (rB fun δ => (vAnd ((aCons (e2 dIx (e2 dIx (eVar 9 δ) (Rs.ok (.int 0))) (Rs.ok (.int 0))) (aCons (e2 dEq (e2 dIx (eVar 1 δ) (Rs.ok (.int 5))) (Rs.ok (.int 1))) (Rs.ok []))).bind (m__law_asked c)) ((aCons (e2 dIx (e2 dIx (eVar 9 δ) (Rs.ok (.int 0))) (Rs.ok (.int 1))) (aCons (e2 dEq (e2 dIx (eVar 1 δ) (Rs.ok (.int 5))) (Rs.ok (.int 0))) (Rs.ok []))).bind (m__law_asked c)))))))))))))))))))))))))
def m_law (c : Ad) : List D → Rs D := fnD 18 1 (mm_law c)
/-! ### what the top has written -/
structure T (K : PySem.W.Frag) (mg : Str → Option Value) (c : Ad) : Prop where
  b_ValueError : mg "ValueError" = none
  b_bool : mg "bool" = none
  b_enumerate : mg "enumerate" = none
  b_int : mg "int" = none
  b_isinstance : mg "isinstance" = none
  b_len : mg "len" = none
  b_list : mg "list" = none
  b_min : mg "min" = none
  b_range : mg "range" = none
  b_set : mg "set" = none
  b_str : mg "str" = none
  b_sum : mg "sum" = none
  b_tuple : mg "tuple" = none
  g_DIGITS : ∃ u, mg "DIGITS" = some u ∧ RelV (.str "0123456789") u
  g_FIGURES : ∃ u, mg "FIGURES" = some u ∧ RelV (.str "0123456789") u
  g_LETTERS : ∃ u, mg "LETTERS" = some u ∧ RelV (.str "abcdefghijklmnopqrstuvwxyz") u
  g_LONGEST_NAME : ∃ u, mg "LONGEST_NAME" = some u ∧ RelV (.int 8) u
  g_MOST_BOX_STAMPS : ∃ u, mg "MOST_BOX_STAMPS" = some u ∧ RelV (.int 7) u
  g_MOST_CELLS_layers : ∃ u, mg "MOST_CELLS_layers" = some u ∧ RelV (.int 30) u
  g_MOST_CELLS_stocknotes : ∃ u, mg "MOST_CELLS_stocknotes" = some u ∧ RelV (.int 30) u
  g_MOST_PAIRS : ∃ u, mg "MOST_PAIRS" = some u ∧ RelV (.int 4) u
  g_MOST_STAMPS : ∃ u, mg "MOST_STAMPS" = some u ∧ RelV (.int 24) u
  g_PAIR : ∃ u, mg "PAIR" = some u ∧ RelV (.str "pair") u
  g_SIGNS : ∃ u, mg "SIGNS" = some u ∧ RelV (.str "-.abcdefghijklmnopqrstuvwxyz") u
  g_STOCK_WORD : ∃ u, mg "STOCK_WORD" = some u ∧ RelV (.str "stock ") u
  x_BadNote : OexC K c.BadNote
  cl_Stock : Cls K c.Stock
  k_Stock : ∃ u, mg "Stock" = some u ∧ RelV (.ref c.Stock) u
  o_Stock : OwnC K c.Stock
  cl_Box : Cls K c.Box
  k_Box : ∃ u, mg "Box" = some u ∧ RelV (.ref c.Box) u
  o_Box : OwnC K c.Box
  kx_BadClaimText : ∃ u, mg "BadClaimText" = some u ∧ RelV (.ref c.BadClaimText) u
  kx_BadName : ∃ u, mg "BadName" = some u ∧ RelV (.ref c.BadName) u
  kx_BadNote : ∃ u, mg "BadNote" = some u ∧ RelV (.ref c.BadNote) u
  kx_BadStamp : ∃ u, mg "BadStamp" = some u ∧ RelV (.ref c.BadStamp) u
  kx_NameTaken : ∃ u, mg "NameTaken" = some u ∧ RelV (.ref c.NameTaken) u
  kx_UnknownName : ∃ u, mg "UnknownName" = some u ∧ RelV (.ref c.UnknownName) u
  mx_StampError : mg "StampError" = some (.ref c.StampError)
  xc_BadNote : ExcC K c.BadNote
  xf_BadNote : XfC K c.BadNote
  xm_BadNote_StampError : PySem.W.exmOne K (.ref c.BadNote) (.ref c.StampError) = some true
  is_BadNote_BadClaimText : PySem.W.kitOne K (.ref c.BadNote) (.ref c.BadClaimText) = some false
  is_BadNote_BadName : PySem.W.kitOne K (.ref c.BadNote) (.ref c.BadName) = some false
  is_BadNote_BadNote : PySem.W.kitOne K (.ref c.BadNote) (.ref c.BadNote) = some true
  is_BadNote_BadStamp : PySem.W.kitOne K (.ref c.BadNote) (.ref c.BadStamp) = some false
  is_BadNote_NameTaken : PySem.W.kitOne K (.ref c.BadNote) (.ref c.NameTaken) = some false
  is_BadNote_UnknownName : PySem.W.kitOne K (.ref c.BadNote) (.ref c.UnknownName) = some false
  is_BadNote_ValueError : PySem.W.kitOne K (.ref c.BadNote) (.type "ValueError") = some true
  n_BadNote_line : PySem.W.findIn K (.ref c.BadNote) "line" = some none
  n_Box_pairs : NoAttr K c.Box "pairs"
  n_Box_stock : NoAttr K c.Box "stock"
  n_Stock_layers : NoAttr K c.Stock "layers"
  n_Stock_numbers : NoAttr K c.Stock "numbers"
  n_Stock_size : NoAttr K c.Stock "size"
  n_Stock_stamps : NoAttr K c.Stock "stamps"
section
variable {P : Program} {w : World} {K : PySem.W.Frag} {mg : Str → Option Value} {base : Heap} {c : Ad}
theorem ok_number_in {f : Addr} {fd : FuncData} (G : T K mg c) (F : Fun K "number_in" "number_in" s_number_in f fd)  : FnOk P w K mg base (L2.CX P w) 1 f fd ["text", "longest"] (spD K (m_number_in c)) := by
  refine def_is (m := mm_number_in c) F sc_number_in rfl rfl fun cdv A outer s H E hr => ?_
  exact ⟨_, (pss_cons (ps_if (pt_not (pt_chain op_le op_le pe_int (pe_callB call_len (by rfl) G.b_len (by decide +kernel) (pa_cons (pv 0) pa_nil)) (pv 1))) (pss_one (ps_ret pe_non)) pss_nil) (pss_cons (ps_for poX rfl (pi_any (pv 0)) (pg_name (i := 2) sc_number_in.nd rfl (Or.inl rfl)) (pss_one (ps_if (pt_cmpR op_notInA (pv 2) (pe_gl G.g_FIGURES rfl) (by rfl)) (pss_one (ps_ret pe_non)) pss_nil))) (pss_cons (ps_if (PW.pt (pw_and (pt_cmpR (op_eqP hr.units) (pe_ix ix_seq (pv 0) pe_int (fun _ _ => rfl)) pe_str (nomark _)) (pw_and1 (pt_cmpR op_gt (pe_callB call_len (by rfl) G.b_len (by decide +kernel) (pa_cons (pv 0) pa_nil)) pe_int (nomark _))))) (pss_one (ps_ret pe_non)) pss_nil) (pss_one (ps_ret (pe_callTy call_intD (by rfl) G.b_int (by decide +kernel) (pa_cons (pv 0) pa_nil))))))),
    (rn_seq (rn_if (xt_B fun δ => (ev_not (ev_test (ev_chain ha_le ha_le ev_int (ev_cb hc_len (ev_cons (ev_var 0) ev_nil)) (ev_var 1))))) (rn_ret (xr_B fun δ => ev_non)) rn_nil) (rn_seq (rn_for (fun δ => (ev_any (ev_var 0))) (gt_name 2) (rn_if (xt_B fun δ => (ev_test (ev_op ha_notIn (ev_var 2) ev_str))) (rn_ret (xr_B fun δ => ev_non)) rn_nil)) (rn_seq (rn_if (xt_B fun δ => (ev_and (ev_test (ev_op ha_eq (ev_op ha_ix (ev_var 0) ev_int) ev_str)) (ev_test (ev_op ha_gt (ev_cb hc_len (ev_cons (ev_var 0) ev_nil)) ev_int)))) (rn_ret (xr_B fun δ => ev_non)) rn_nil) (rn_ret (xr_B fun δ => (ev_cb hc_int (ev_cons (ev_var 0) ev_nil)))))))⟩
theorem ok_size_in {f : Addr} {fd : FuncData} (G : T K mg c) (F : Fun K "size_in" "size_in" s_size_in f fd) (h_number_in : Has P w K mg base 1 "number_in" ["text", "longest"] (spD K (m_number_in c))) : FnOk P w K mg base (L2.CX P w) 2 f fd ["line"] (spD K (m_size_in c)) := by
  refine def_is (m := mm_size_in c) F sc_size_in rfl rfl fun cdv A outer s H E hr => ?_
  exact ⟨_, (pss_cons (ps_if (pt_not (pt_val (pe_bm PySem.F.plainAttrs_str PySem.F.slot_str_startswith PySem.F.type_str_startswith mt_startswith (pv 0) (pa_cons (pe_gl G.g_STOCK_WORD rfl) pa_nil)))) (pss_one (ps_ret pe_non)) pss_nil) (pss_cons (ps_set (i := 1) sc_size_in.nd rfl (Or.inl rfl) (pe_cal h_number_in hr rfl hxX (pa_cons (pe_slice sl_any (pv 0) (po_some (pe_callB call_len (by rfl) G.b_len (by decide +kernel) (pa_cons (pe_gl G.g_STOCK_WORD rfl) pa_nil))) po_none) (pa_cons pe_int pa_nil)) (by decide))) (pss_cons (ps_if (PW.pt (pw_or (pt_cmpR op_isN (pv 1) pe_non (nomark _)) (pw_or1 (pt_not (pt_chain op_le op_le pe_int (pv 1) (pe_gl G.g_MOST_CELLS_stocknotes rfl)))))) (pss_one (ps_ret pe_non)) pss_nil) (pss_one (ps_ret (pv 1)))))),
    (rn_seq (rn_if (xt_B fun δ => (ev_not (ev_tB (ev_mb hm_starts (ev_var 0) (ev_cons ev_str ev_nil))))) (rn_ret (xr_B fun δ => ev_non)) rn_nil) (rn_seq (rn_set (i := 1) (xp_B fun δ => (ev_call (ev_cons (ev_sl (ev_var 0) (ev_part (ev_cb hc_len (ev_cons ev_str ev_nil))) ev_noPart) (ev_cons ev_int ev_nil))))) (rn_seq (rn_if (xt_B fun δ => (ev_or (ev_test (ev_op ha_isN (ev_var 1) ev_non)) (ev_not (ev_test (ev_chain ha_le ha_le ev_int (ev_var 1) ev_int))))) (rn_ret (xr_B fun δ => ev_non)) rn_nil) (rn_ret (xr_B fun δ => (ev_var 1))))))⟩
theorem ok_BadNote___init__ {f : Addr} {fd : FuncData} (G : T K mg c) (F : Fun K "__init__" "BadNote.__init__" s_BadNote___init__ f fd) : FnOk P w K mg base (L2.CX P w) 1 f fd ["self", "line"] (spX c.BadNote ["line"]) :=
  xinit1 F sc_BadNote___init__ G.x_BadNote G.n_BadNote_line fun cdv A outer s H E => pss_cons (ps_ost (pv 0) (pv 1)) pss_nil
theorem ok_is_name {f : Addr} {fd : FuncData} (G : T K mg c) (F : Fun K "is_name" "is_name" s_is_name f fd)  : FnOk P w K mg base (L2.CX P w) 1 f fd ["value"] (spD K (m_is_name c)) := by
  refine def_is (m := mm_is_name c) F sc_is_name rfl rfl fun cdv A outer s H E hr => ?_
  exact ⟨_, (pss_cons (ps_if (pt_not (pt_val (pe_callB call_isi (by rfl) G.b_isinstance (by decide +kernel) (pa_cons (pv 0) (pa_cons (pe_bltn (v := .ty "str") (by rfl) G.b_str (by decide +kernel) rfl) pa_nil))))) (pss_one (ps_ret pe_bl)) pss_nil) (pss_cons (ps_if (PW.pt (pw_or (pt_not (pt_chain op_le op_le pe_int (pe_callB call_len (by rfl) G.b_len (by decide +kernel) (pa_cons (pv 0) pa_nil)) (pe_gl G.g_LONGEST_NAME rfl))) (pw_or1 (pt_cmpR op_notInA (pe_ix ix_seq (pv 0) pe_int (fun _ _ => rfl)) (pe_gl G.g_LETTERS rfl) (by rfl))))) (pss_one (ps_ret pe_bl)) pss_nil) (pss_cons (ps_for poX rfl (pi_any (pv 0)) (pg_name (i := 1) sc_is_name.nd rfl (Or.inl rfl)) (pss_one (ps_if (PW.pt (pw_and (pt_cmpR op_notInA (pv 1) (pe_gl G.g_LETTERS rfl) (by rfl)) (pw_and1 (pt_cmpR op_notInA (pv 1) (pe_gl G.g_DIGITS rfl) (by rfl))))) (pss_one (ps_ret pe_bl)) pss_nil))) (pss_one (ps_ret pe_bl))))),
    (rn_seq (rn_if (xt_B fun δ => (ev_not (ev_tB (ev_isi (.ty "str") (isa_B "str") (ev_var 0))))) (rn_ret (xr_B fun δ => ev_bl)) rn_nil) (rn_seq (rn_if (xt_B fun δ => (ev_or (ev_not (ev_test (ev_chain ha_le ha_le ev_int (ev_cb hc_len (ev_cons (ev_var 0) ev_nil)) ev_int))) (ev_test (ev_op ha_notIn (ev_op ha_ix (ev_var 0) ev_int) ev_str)))) (rn_ret (xr_B fun δ => ev_bl)) rn_nil) (rn_seq (rn_for (fun δ => (ev_any (ev_var 0))) (gt_name 1) (rn_if (xt_B fun δ => (ev_and (ev_test (ev_op ha_notIn (ev_var 1) ev_str)) (ev_test (ev_op ha_notIn (ev_var 1) ev_str)))) (rn_ret (xr_B fun δ => ev_bl)) rn_nil)) (rn_ret (xr_B fun δ => ev_bl)))))⟩
theorem ok_is_layer {f : Addr} {fd : FuncData} (G : T K mg c) (F : Fun K "is_layer" "is_layer" s_is_layer f fd)  : FnOk P w K mg base (L2.CX P w) 1 f fd ["value"] (spD K (m_is_layer c)) := by
  refine def_is (m := mm_is_layer c) F sc_is_layer rfl rfl fun cdv A outer s H E hr => ?_
  exact ⟨_, (pss_cons (ps_if (pt_not (pt_val (pe_callB call_isi (by rfl) G.b_isinstance (by decide +kernel) (pa_cons (pv 0) (pa_cons (pe_bltn (v := .ty "str") (by rfl) G.b_str (by decide +kernel) rfl) pa_nil))))) (pss_one (ps_ret pe_bl)) pss_nil) (pss_cons (ps_if (pt_not (pt_chain op_le op_le pe_int (pe_callB call_len (by rfl) G.b_len (by decide +kernel) (pa_cons (pv 0) pa_nil)) (pe_gl G.g_MOST_CELLS_layers rfl))) (pss_one (ps_ret pe_bl)) pss_nil) (pss_cons (ps_for poX rfl (pi_any (pv 0)) (pg_name (i := 1) sc_is_layer.nd rfl (Or.inl rfl)) (pss_one (ps_if (pt_cmpR op_notInA (pv 1) (pe_gl G.g_SIGNS rfl) (by rfl)) (pss_one (ps_ret pe_bl)) pss_nil))) (pss_one (ps_ret pe_bl))))),
    (rn_seq (rn_if (xt_B fun δ => (ev_not (ev_tB (ev_isi (.ty "str") (isa_B "str") (ev_var 0))))) (rn_ret (xr_B fun δ => ev_bl)) rn_nil) (rn_seq (rn_if (xt_B fun δ => (ev_not (ev_test (ev_chain ha_le ha_le ev_int (ev_cb hc_len (ev_cons (ev_var 0) ev_nil)) ev_int)))) (rn_ret (xr_B fun δ => ev_bl)) rn_nil) (rn_seq (rn_for (fun δ => (ev_any (ev_var 0))) (gt_name 1) (rn_if (xt_B fun δ => (ev_test (ev_op ha_notIn (ev_var 1) ev_str))) (rn_ret (xr_B fun δ => ev_bl)) rn_nil)) (rn_ret (xr_B fun δ => ev_bl)))))⟩
theorem ok_empty_layer {f : Addr} {fd : FuncData} (G : T K mg c) (F : Fun K "empty_layer" "empty_layer" s_empty_layer f fd)  : FnOk P w K mg base (L2.CX P w) 1 f fd ["size"] (spD K (m_empty_layer c)) := by
  refine def_is (m := mm_empty_layer c) F sc_empty_layer rfl rfl fun cdv A outer s H E hr => ?_
  exact ⟨_, (pss_one (ps_ret (pe_op op_mulD pe_str (pv 0)))),
    (rn_ret (xr_B fun δ => (ev_op ha_mul ev_str (ev_var 0))))⟩
theorem ok_stamp_in {f : Addr} {fd : FuncData} (G : T K mg c) (F : Fun K "stamp_in" "stamp_in" s_stamp_in f fd) (h_is_name : Has P w K mg base 1 "is_name" ["value"] (spD K (m_is_name c))) (h_is_layer : Has P w K mg base 1 "is_layer" ["value"] (spD K (m_is_layer c))) (h_empty_layer : Has P w K mg base 1 "empty_layer" ["size"] (spD K (m_empty_layer c))) : FnOk P w K mg base (L2.CX P w) 2 f fd ["line", "size"] (spD K (m_stamp_in c)) := by
  refine def_is (m := mm_stamp_in c) F sc_stamp_in rfl rfl fun cdv A outer s H E hr => ?_
  exact ⟨_, (pss_cons (ps_set (i := 2) sc_stamp_in.nd rfl (Or.inl rfl) (pe_bm PySem.F.plainAttrs_str PySem.F.slot_str_split PySem.F.type_str_split mt_split (pv 0) (pa_cons pe_str pa_nil))) (pss_cons (ps_if (PW.pt (pw_or (pt_cmpR (op_neP hr.units) (pe_callB call_len (by rfl) G.b_len (by decide +kernel) (pa_cons (pv 2) pa_nil)) pe_int (nomark _)) (pw_or1 (pt_not (pt_val (pe_cal h_is_name hr rfl hxX (pa_cons (pe_ix ix_seq (pv 2) pe_int (fun _ _ => rfl)) pa_nil) (by decide))))))) (pss_one (ps_ret pe_non)) pss_nil) (pss_cons (ps_if (PW.pt (pw_or (pt_not (pt_val (pe_cal h_is_layer hr rfl hxX (pa_cons (pe_ix ix_seq (pv 2) pe_int (fun _ _ => rfl)) pa_nil) (by decide)))) (pw_or (pt_cmpR (op_neP hr.units) (pe_callB call_len (by rfl) G.b_len (by decide +kernel) (pa_cons (pe_ix ix_seq (pv 2) pe_int (fun _ _ => rfl)) pa_nil)) (pv 1) (nomark _)) (pw_or1 (pt_cmpR (op_eqP hr.units) (pe_ix ix_seq (pv 2) pe_int (fun _ _ => rfl)) (pe_cal h_empty_layer hr rfl hxX (pa_cons (pv 1) pa_nil) (by decide)) (nomark _)))))) (pss_one (ps_ret pe_non)) pss_nil) (pss_one (ps_ret (pe_tup (pa_cons (pe_ix ix_seq (pv 2) pe_int (fun _ _ => rfl)) (pa_cons (pe_ix ix_seq (pv 2) pe_int (fun _ _ => rfl)) pa_nil)))))))),
    (rn_seq (rn_set (i := 2) (xp_B fun δ => (ev_new (ev_nmb (P := P) (w := w) hm_split (ev_var 0) (ev_cons ev_str ev_nil))))) (rn_seq (rn_if (xt_B fun δ => (ev_or (ev_test (ev_op ha_ne (ev_cb hc_len (ev_cons (ev_var 2) ev_nil)) ev_int)) (ev_not (ev_tB (ev_call (ev_cons (ev_op ha_ix (ev_var 2) ev_int) ev_nil)))))) (rn_ret (xr_B fun δ => ev_non)) rn_nil) (rn_seq (rn_if (xt_B fun δ => (ev_or (ev_not (ev_tB (ev_call (ev_cons (ev_op ha_ix (ev_var 2) ev_int) ev_nil)))) (ev_or (ev_test (ev_op ha_ne (ev_cb hc_len (ev_cons (ev_op ha_ix (ev_var 2) ev_int) ev_nil)) (ev_var 1))) (ev_test (ev_op ha_eq (ev_op ha_ix (ev_var 2) ev_int) (ev_call (ev_cons (ev_var 1) ev_nil))))))) (rn_ret (xr_B fun δ => ev_non)) rn_nil) (rn_ret (xr_B fun δ => (ev_tup (ev_cons (ev_op ha_ix (ev_var 2) ev_int) (ev_cons (ev_op ha_ix (ev_var 2) ev_int) ev_nil))))))))⟩
theorem ok_frozen {f : Addr} {fd : FuncData} (G : T K mg c) (F : Fun K "frozen" "frozen" s_frozen f fd) (gf : mg "frozen" = some (.ref f)) (kf : PySem.W.keepIn K (.ref f) = true) (bf : Binds K fd ["value"] [])  : ∀ n, FnOk P w K mg base (L2.CX P w) (n + 1) f fd ["value"] (spD K (m_frozen c n)) := by
  intro n
  induction n with
  | zero => exact def_bad F sc_frozen
  | succ n ih =>
    have hself : Has P w K mg base (n + 1) "frozen" ["value"] (spD K (m_frozen c n)) := ⟨f, fd, gf, kf, bf, ih⟩
    refine def_is (m := mg_frozen c (m_frozen c n)) F sc_frozen rfl rfl fun cdv A outer s H E hr => ?_
    exact ⟨_, (pss_cons (ps_if (pt_val (pe_callB call_isiT (by rfl) G.b_isinstance (by decide +kernel) (pa_cons (pv 0) (pa_cons (pe_tup (pa_cons (pe_bltn (v := .ty "list") (by rfl) G.b_list (by decide +kernel) rfl) (pa_cons (pe_bltn (v := .ty "tuple") (by rfl) G.b_tuple (by decide +kernel) rfl) pa_nil))) pa_nil)))) (pss_one (ps_ret (pe_callTy call_tuple_of (by rfl) G.b_tuple (by decide +kernel) (pa_cons (pe_lc (own := [("part", 1)]) (g := (gName 1)) (tt := tYes) (te := (tCall (spD K (m_frozen c n)) [] E0 (tCons (tVar 1) tNil))) rfl sc_frozen.nd (pi_any (pv 0)) (blkOk_by (N := ["value", "part"]) (sc := defScope s_frozen) (by decide +kernel)) (fun _ _ _ _ _ => (pg_name (i := 1) sc_frozen.nd rfl (Or.inl rfl))) (fun _ _ _ _ _ => pts_nil) (fun _ _ _ _ _ => (pe_cal hself hr rfl passL (pa_cons (pv 1) pa_nil) (by omega)))) pa_nil)))) pss_nil) (pss_one (ps_ret (pv 0)))),
      (rn_seq (rn_if (xt_B fun δ => (ev_tB (ev_isi2 (ev_var 0)))) (rn_ret (xr_B fun δ => (ev_cb hc_tuple (ev_cons (ev_new (ev_lc (P := P) (w := w) (vs := [1]) (ev_any (ev_var 0)) (ge_name 1) ev_yes (fun δ => (ev_call0 (ev_cons (ev_var 1) ev_nil))))) ev_nil)))) rn_nil) (rn_ret (xr_B fun δ => (ev_var 0))))⟩
theorem ok_is_stamp {f : Addr} {fd : FuncData} (G : T K mg c) (F : Fun K "is_stamp" "is_stamp" s_is_stamp f fd) (h_is_layer : Has P w K mg base 1 "is_layer" ["value"] (spD K (m_is_layer c))) (h_empty_layer : Has P w K mg base 1 "empty_layer" ["size"] (spD K (m_empty_layer c))) : FnOk P w K mg base (L2.CX P w) 2 f fd ["value", "size"] (spD K (m_is_stamp c)) := by
  refine def_is (m := mm_is_stamp c) F sc_is_stamp rfl rfl fun cdv A outer s H E hr => ?_
  exact ⟨_, (pss_one (ps_ret (pe_and (pe_cal h_is_layer hr rfl hxX (pa_cons (pv 0) pa_nil) (by decide)) (pe_and (pe_cmpR (op_eqP hr.units) (pe_callB call_len (by rfl) G.b_len (by decide +kernel) (pa_cons (pv 0) pa_nil)) (pv 1) (nomark _)) (pe_one (pe_cmpR (op_neP hr.units) (pv 0) (pe_cal h_empty_layer hr rfl hxX (pa_cons (pv 1) pa_nil) (by decide)) (nomark _))))))),
    (rn_ret (xr_B fun δ => (ev_andV (ev_call (ev_cons (ev_var 0) ev_nil)) (ev_andV (ev_op ha_eq (ev_cb hc_len (ev_cons (ev_var 0) ev_nil)) (ev_var 1)) (ev_op ha_ne (ev_var 0) (ev_call (ev_cons (ev_var 1) ev_nil)))))))⟩
theorem ok_Stock___init__ {f : Addr} {fd : FuncData} (G : T K mg c) (F : Fun K "__init__" "Stock.__init__" s_Stock___init__ f fd) (h_frozen : Has P w K mg base 5 "frozen" ["value"] (spD K (m_frozen c 4))) (h_is_name : Has P w K mg base 1 "is_name" ["value"] (spD K (m_is_name c))) (h_is_stamp : Has P w K mg base 2 "is_stamp" ["value", "size"] (spD K (m_is_stamp c))) : FnOk P w K mg base (L2.CX P w) 6 f fd ["self", "size", "stamps"] (spI K c.Stock (m_Stock___init__ c)) := by
  refine init_is (m := mm_Stock___init__ c) F sc_Stock___init__ rfl rfl fun cdv A outer s H E hr => ?_
  exact ⟨_, (pss_cons (ps_set (i := 3) sc_Stock___init__.nd rfl (Or.inl rfl) (pe_cal h_frozen hr rfl hxX (pa_cons (pv 2) pa_nil) (by decide))) (pss_cons (ps_set (i := 4) sc_Stock___init__.nd rfl (Or.inl rfl) pe_dnewK) (pss_cons (ps_for poX rfl (pi_enum0 rfl G.b_enumerate (pv 3)) (pg_tup (by rfl) (pgs_cons (pg_name (i := 5) sc_Stock___init__.nd rfl (Or.inl rfl)) (pgs_cons (pg_name (i := 6) sc_Stock___init__.nd rfl (Or.inl rfl)) pgs_nil))) (pss_cons (ps_if (pt_not (pt_val (pe_cal h_is_name hr rfl hxX (pa_cons (pe_ix ix_seq (pv 6) pe_int (fun _ _ => rfl)) pa_nil) (by decide)))) (pss_one ps_never) pss_nil) (pss_cons (ps_if (pt_not (pt_val (pe_cal h_is_stamp hr rfl hxX (pa_cons (pe_ix ix_seq (pv 6) pe_int (fun _ _ => rfl)) (pa_cons (pv 1) pa_nil)) (by decide)))) (pss_one ps_never) pss_nil) (pss_cons (ps_if (pt_cmp (pc_din (hu_of hr) (pe_ix ix_seq (pv 6) pe_int (fun _ _ => rfl)) (pv 4))) (pss_one ps_never) pss_nil) (pss_one (ps_dput (hu_of hr) (pv 4) (pe_ix ix_seq (pv 6) pe_int (fun _ _ => rfl)) (pv 5) rfl)))))) (pss_cons (ps_fld (pv 0) (pv 1) rfl) (pss_cons (ps_fld (pv 0) (pv 3) rfl) (pss_cons (ps_fld (pv 0) (pe_callTy call_tuple_of (by rfl) G.b_tuple (by decide +kernel) (pa_cons (pe_lc (own := [("pair", 6)]) (g := (gName 6)) (tt := tYes) (te := (tOp (rIx K) (tVar 6) (tC (.int 1)))) rfl sc_Stock___init__.nd (pi_any (pv 3)) (blkOk_by (N := ["self", "size", "stamps", "pairs", "numbers", "index", "pair"]) (sc := defScope s_Stock___init__) (by decide +kernel)) (fun _ _ _ _ _ => (pg_name (i := 6) sc_Stock___init__.nd rfl (Or.inl rfl))) (fun _ _ _ _ _ => pts_nil) (fun _ _ _ _ _ => (pe_ix ix_seq (pv 6) pe_int (fun _ _ => rfl)))) pa_nil)) rfl) (pss_one (ps_fld (pv 0) (pv 4) rfl)))))))),
    (rn_seq (rn_set (i := 3) (xp_B fun δ => (ev_call (ev_cons (ev_var 2) ev_nil)))) (rn_seq (rn_new (i := 4) fun δ => (ev_dicNew (P := P) (w := w))) (rn_seq (rn_for (fun δ => (ev_enumS (ev_var 3))) (gt_tup (gts_cons (gt_name 5) (gts_cons (gt_name 6) gts_nil))) (rn_seq (rn_if (xt_B fun δ => (ev_not (ev_tB (ev_call (ev_cons (ev_op ha_ix (ev_var 6) ev_int) ev_nil))))) rn_never rn_nil) (rn_seq (rn_if (xt_B fun δ => (ev_not (ev_tB (ev_call (ev_cons (ev_op ha_ix (ev_var 6) ev_int) (ev_cons (ev_var 1) ev_nil)))))) rn_never rn_nil) (rn_seq (rn_if (xt_V fun δ => (ev_tB (ev_din (ev_op ha_ix (ev_var 6) ev_int) (ev_var 4)))) rn_never rn_nil) (rn_dput (xp_C 4) (xp_B fun δ => (ev_op ha_ix (ev_var 6) ev_int)) (xp_B fun δ => (ev_var 5))))))) (rn_frz 4 (rn_seq (rn_fld G.cl_Stock G.n_Stock_size (xp_C 0) (xp_B fun δ => (ev_var 1))) (rn_seq (rn_fld G.cl_Stock G.n_Stock_stamps (xp_C 0) (xp_B fun δ => (ev_var 3))) (rn_seq (rn_fld G.cl_Stock G.n_Stock_layers (xp_C 0) (xp_B fun δ => (ev_cb hc_tuple (ev_cons (ev_new (ev_lc (P := P) (w := w) (vs := [6]) (ev_any (ev_var 3)) (ge_name 6) ev_yes (fun δ => (ev_op ha_ix (ev_var 6) ev_int)))) ev_nil)))) (rn_fld G.cl_Stock G.n_Stock_numbers (xp_C 0) (xp_B fun δ => (ev_var 4))))))))))⟩
theorem ok_stock_in {f : Addr} {fd : FuncData} (G : T K mg c) (F : Fun K "stock_in" "stock_in" s_stock_in f fd) (h_size_in : Has P w K mg base 2 "size_in" ["line"] (spD K (m_size_in c))) (h_BadNote___init__ : HasX P w K mg base 1 "BadNote" c.BadNote ["self", "line"] (spX c.BadNote ["line"])) (h_stamp_in : Has P w K mg base 2 "stamp_in" ["line", "size"] (spD K (m_stamp_in c))) (h_Stock___init__ : HasI P w K mg base 6 "Stock" c.Stock ["self", "size", "stamps"] (spI K c.Stock (m_Stock___init__ c))) : FnOk P w K mg base (L2.CX P w) 8 f fd ["lines", "most"] (spD K (m_stock_in c)) := by
  refine def_is (m := mm_stock_in c) F sc_stock_in rfl rfl fun cdv A outer s H E hr => ?_
  exact ⟨_, (pss_cons (ps_set (i := 2) sc_stock_in.nd rfl (Or.inl rfl) (pe_cal h_size_in hr rfl hxX (pa_cons (pe_ix ix_seq (pv 0) pe_int (fun _ _ => rfl)) pa_nil) (by decide))) (pss_cons (ps_if (pt_cmpR op_isN (pv 2) pe_non (nomark _)) (pss_one (ps_raise rfl tkX (pmk_own' h_BadNote___init__ hr rfl hxF (pa_cons pe_int pa_nil) (by decide)))) pss_nil) (pss_cons (ps_set (i := 3) sc_stock_in.nd rfl (Or.inl rfl) (pe_lst pa_nil)) (pss_cons (ps_set (i := 4) sc_stock_in.nd rfl (Or.inl rfl) (pe_callTy0 cr_set0K (by rfl) G.b_set (by decide +kernel))) (pss_cons (ps_for poX rfl (pi_enumSK rfl G.b_enumerate (pe_slice sl_any (pv 0) (po_some pe_int) po_none)) (pg_tup (by rfl) (pgs_cons (pg_name (i := 5) sc_stock_in.nd rfl (Or.inl rfl)) (pgs_cons (pg_name (i := 6) sc_stock_in.nd rfl (Or.inl rfl)) pgs_nil))) (pss_cons (ps_set (i := 7) sc_stock_in.nd rfl (Or.inl rfl) (pe_cal h_stamp_in hr rfl hxX (pa_cons (pv 6) (pa_cons (pv 2) pa_nil)) (by decide))) (pss_cons (ps_if (PW.pt (pw_or (pt_cmpR op_isN (pv 7) pe_non (nomark _)) (pw_or (pt_cmpR or_sinK (pe_ix ix_seq (pv 7) pe_int (fun _ _ => rfl)) (pv 4) (by rfl)) (pw_or1 (pt_cmpR op_gt (pv 5) (pv 1) (nomark _)))))) (pss_one (ps_raise rfl tkX (pmk_own' h_BadNote___init__ hr rfl hxF (pa_cons (pv 5) pa_nil) (by decide)))) pss_nil) (pss_cons (ps_expr (pe_bm PySem.F.plainAttrs_list PySem.F.slot_list_append PySem.F.type_list_append mt_append (pv 3) (pa_cons (pv 7) pa_nil))) (pss_one (ps_expr (pe_saddK (pv 4) (pa_cons (pe_ix ix_seq (pv 7) pe_int (fun _ _ => rfl)) pa_nil)))))))) (pss_one (ps_ret (pe_mak h_Stock___init__ hr rfl hxX (pa_cons (pv 2) (pa_cons (pv 3) pa_nil)) (by decide))))))))),
    (rn_seq (rn_set (i := 2) (xp_B fun δ => (ev_call (ev_cons (ev_op ha_ix (ev_var 0) ev_int) ev_nil)))) (rn_seq (rn_if (xt_B fun δ => (ev_test (ev_op ha_isN (ev_var 2) ev_non))) (rn_raise fun δ => (ev_cons ev_int ev_nil)) rn_nil) (rn_seq (rn_new (i := 3) fun δ => (ev_lst (P := P) (w := w) ev_nil)) (rn_seq (rn_new (i := 4) fun δ => ev_setNew) (rn_seq (rn_for (fun δ => (ev_enumS (ev_sl (ev_var 0) (ev_part ev_int) ev_noPart))) (gt_tup (gts_cons (gt_name 5) (gts_cons (gt_name 6) gts_nil))) (rn_seq (rn_set (i := 7) (xp_B fun δ => (ev_call (ev_cons (ev_var 6) (ev_cons (ev_var 2) ev_nil))))) (rn_seq (rn_if (xt_or (xt_B fun δ => (ev_test (ev_op ha_isN (ev_var 7) ev_non))) (xt_or (xt_in (xp_B fun δ => (ev_op ha_ix (ev_var 7) ev_int)) (xp_C 4)) (xt_B fun δ => (ev_test (ev_op ha_gt (ev_var 5) (ev_var 1)))))) (rn_raise fun δ => (ev_cons (ev_var 5) ev_nil)) rn_nil) (rn_seq (rn_app (xp_C 3) (xp_B fun δ => (ev_var 7))) (rn_add (xp_C 4) (xp_B fun δ => (ev_op ha_ix (ev_var 7) ev_int))))))) (rn_frz 3 (rn_ret (xr_B fun δ => (ev_make (ev_cons (ev_var 2) (ev_cons (ev_var 3) ev_nil)))))))))))⟩
theorem ok_parse_stock {f : Addr} {fd : FuncData} (G : T K mg c) (F : Fun K "parse_stock" "parse_stock" s_parse_stock f fd) (h_stock_in : Has P w K mg base 8 "stock_in" ["lines", "most"] (spD K (m_stock_in c))) : FnOk P w K mg base (L2.CX P w) 9 f fd ["text"] (spD K (m_parse_stock c)) := by
  refine def_is (m := mm_parse_stock c) F sc_parse_stock rfl rfl fun cdv A outer s H E hr => ?_
  exact ⟨_, (pss_one (ps_ret (pe_cal h_stock_in hr rfl hxX (pa_cons (pe_bm PySem.F.plainAttrs_str PySem.F.slot_str_split PySem.F.type_str_split mt_split (pv 0) (pa_cons pe_str pa_nil)) (pa_cons (pe_gl G.g_MOST_STAMPS rfl) pa_nil)) (by decide)))),
    (rn_ret (xr_B fun δ => (ev_call (ev_cons (ev_new (ev_nmb (P := P) (w := w) hm_split (ev_var 0) (ev_cons ev_str ev_nil))) (ev_cons ev_int ev_nil)))))⟩
theorem ok_is_pair_line {f : Addr} {fd : FuncData} (G : T K mg c) (F : Fun K "is_pair_line" "is_pair_line" s_is_pair_line f fd)  : FnOk P w K mg base (L2.CX P w) 1 f fd ["line"] (spD K (m_is_pair_line c)) := by
  refine def_is (m := mm_is_pair_line c) F sc_is_pair_line rfl rfl fun cdv A outer s H E hr => ?_
  exact ⟨_, (pss_cons (ps_set (i := 1) sc_is_pair_line.nd rfl (Or.inl rfl) (pe_bm PySem.F.plainAttrs_str PySem.F.slot_str_split PySem.F.type_str_split mt_split (pv 0) (pa_cons pe_str pa_nil))) (pss_one (ps_ret (pe_and (pe_cmpR (op_eqP hr.units) (pe_callB call_len (by rfl) G.b_len (by decide +kernel) (pa_cons (pv 1) pa_nil)) pe_int (nomark _)) (pe_one (pe_cmpR (op_eqP hr.units) (pe_ix ix_seq (pv 1) pe_int (fun _ _ => rfl)) (pe_gl G.g_PAIR rfl) (nomark _))))))),
    (rn_seq (rn_set (i := 1) (xp_B fun δ => (ev_new (ev_nmb (P := P) (w := w) hm_split (ev_var 0) (ev_cons ev_str ev_nil))))) (rn_ret (xr_B fun δ => (ev_andV (ev_op ha_eq (ev_cb hc_len (ev_cons (ev_var 1) ev_nil)) ev_int) (ev_op ha_eq (ev_op ha_ix (ev_var 1) ev_int) ev_str)))))⟩
theorem ok_first_pair_line {f : Addr} {fd : FuncData} (G : T K mg c) (F : Fun K "first_pair_line" "first_pair_line" s_first_pair_line f fd) (h_is_pair_line : Has P w K mg base 1 "is_pair_line" ["line"] (spD K (m_is_pair_line c))) : FnOk P w K mg base (L2.CX P w) 2 f fd ["lines"] (spD K (m_first_pair_line c)) := by
  refine def_is (m := mm_first_pair_line c) F sc_first_pair_line rfl rfl fun cdv A outer s H E hr => ?_
  exact ⟨_, (pss_cons (ps_for poX rfl (pi_range2 rfl G.b_range (pa_cons pe_int (pa_cons (pe_callB call_len (by rfl) G.b_len (by decide +kernel) (pa_cons (pv 0) pa_nil)) pa_nil))) (pg_name (i := 1) sc_first_pair_line.nd rfl (Or.inl rfl)) (pss_one (ps_if (pt_val (pe_cal h_is_pair_line hr rfl hxX (pa_cons (pe_ix ix_seq (pv 0) (pv 1) (fun _ _ => rfl)) pa_nil) (by decide))) (pss_one (ps_ret (pv 1))) pss_nil))) (pss_one (ps_ret (pe_callB call_len (by rfl) G.b_len (by decide +kernel) (pa_cons (pv 0) pa_nil))))),
    (rn_seq (rn_for (fun δ => (ev_rng2 (ev_cons ev_int (ev_cons (ev_cb hc_len (ev_cons (ev_var 0) ev_nil)) ev_nil)))) (gt_name 1) (rn_if (xt_B fun δ => (ev_tB (ev_call (ev_cons (ev_op ha_ix (ev_var 0) (ev_var 1)) ev_nil)))) (rn_ret (xr_B fun δ => (ev_var 1))) rn_nil)) (rn_ret (xr_B fun δ => (ev_cb hc_len (ev_cons (ev_var 0) ev_nil)))))⟩
theorem ok_is_layer_of {f : Addr} {fd : FuncData} (G : T K mg c) (F : Fun K "is_layer_of" "is_layer_of" s_is_layer_of f fd) (h_is_layer : Has P w K mg base 1 "is_layer" ["value"] (spD K (m_is_layer c))) : FnOk P w K mg base (L2.CX P w) 2 f fd ["size", "word"] (spD K (m_is_layer_of c)) := by
  refine def_is (m := mm_is_layer_of c) F sc_is_layer_of rfl rfl fun cdv A outer s H E hr => ?_
  exact ⟨_, (pss_one (ps_ret (pe_and (pe_cal h_is_layer hr rfl hxX (pa_cons (pv 1) pa_nil) (by decide)) (pe_one (pe_cmpR (op_eqP hr.units) (pe_callB call_len (by rfl) G.b_len (by decide +kernel) (pa_cons (pv 1) pa_nil)) (pv 0) (nomark _)))))),
    (rn_ret (xr_B fun δ => (ev_andV (ev_call (ev_cons (ev_var 1) ev_nil)) (ev_op ha_eq (ev_cb hc_len (ev_cons (ev_var 1) ev_nil)) (ev_var 0)))))⟩
theorem ok_pair_in {f : Addr} {fd : FuncData} (G : T K mg c) (F : Fun K "pair_in" "pair_in" s_pair_in f fd) (h_is_pair_line : Has P w K mg base 1 "is_pair_line" ["line"] (spD K (m_is_pair_line c))) (h_is_layer_of : Has P w K mg base 2 "is_layer_of" ["size", "word"] (spD K (m_is_layer_of c))) : FnOk P w K mg base (L2.CX P w) 3 f fd ["line", "size"] (spD K (m_pair_in c)) := by
  refine def_is (m := mm_pair_in c) F sc_pair_in rfl rfl fun cdv A outer s H E hr => ?_
  exact ⟨_, (pss_cons (ps_if (pt_not (pt_val (pe_cal h_is_pair_line hr rfl hxX (pa_cons (pv 0) pa_nil) (by decide)))) (pss_one (ps_ret pe_non)) pss_nil) (pss_cons (ps_asg (pe_bm PySem.F.plainAttrs_str PySem.F.slot_str_split PySem.F.type_str_split mt_split (pv 0) (pa_cons pe_str pa_nil)) (pg_unl (by rfl) (pgs_cons (pg_name (i := 2) sc_pair_in.nd rfl (Or.inl rfl)) (pgs_cons (pg_name (i := 3) sc_pair_in.nd rfl (Or.inl rfl)) (pgs_cons (pg_name (i := 4) sc_pair_in.nd rfl (Or.inl rfl)) pgs_nil))))) (pss_cons (ps_if (PW.pt (pw_or (pt_not (pt_val (pe_cal h_is_layer_of hr rfl hxX (pa_cons (pv 1) (pa_cons (pv 3) pa_nil)) (by decide)))) (pw_or1 (pt_not (pt_val (pe_cal h_is_layer_of hr rfl hxX (pa_cons (pv 1) (pa_cons (pv 4) pa_nil)) (by decide))))))) (pss_one (ps_ret pe_non)) pss_nil) (pss_one (ps_ret (pe_tup (pa_cons (pv 3) (pa_cons (pv 4) pa_nil)))))))),
    (rn_seq (rn_if (xt_B fun δ => (ev_not (ev_tB (ev_call (ev_cons (ev_var 0) ev_nil))))) (rn_ret (xr_B fun δ => ev_non)) rn_nil) (rn_seq (rn_asg (fun δ => (ev_new (ev_nmb (P := P) (w := w) hm_split (ev_var 0) (ev_cons ev_str ev_nil)))) (gt_lst (gts_cons (gt_name 2) (gts_cons (gt_name 3) (gts_cons (gt_name 4) gts_nil))))) (rn_seq (rn_if (xt_B fun δ => (ev_or (ev_not (ev_tB (ev_call (ev_cons (ev_var 1) (ev_cons (ev_var 3) ev_nil))))) (ev_not (ev_tB (ev_call (ev_cons (ev_var 1) (ev_cons (ev_var 4) ev_nil))))))) (rn_ret (xr_B fun δ => ev_non)) rn_nil) (rn_ret (xr_B fun δ => (ev_tup (ev_cons (ev_var 3) (ev_cons (ev_var 4) ev_nil))))))))⟩
theorem ok_Box___init__ {f : Addr} {fd : FuncData} (G : T K mg c) (F : Fun K "__init__" "Box.__init__" s_Box___init__ f fd) (h_frozen : Has P w K mg base 5 "frozen" ["value"] (spD K (m_frozen c 4))) : FnOk P w K mg base (L2.CX P w) 6 f fd ["self", "stock", "pairs"] (spI K c.Box (m_Box___init__ c)) := by
  refine init_is (m := mm_Box___init__ c) F sc_Box___init__ rfl rfl fun cdv A outer s H E hr => ?_
  exact ⟨_, (pss_cons (ps_fld (pv 0) (pv 1) rfl) (pss_one (ps_fld (pv 0) (pe_cal h_frozen hr rfl hxX (pa_cons (pv 2) pa_nil) (by decide)) rfl))),
    (rn_seq (rn_fld G.cl_Box G.n_Box_stock (xp_C 0) (xp_B fun δ => (ev_var 1))) (rn_fld G.cl_Box G.n_Box_pairs (xp_C 0) (xp_B fun δ => (ev_call (ev_cons (ev_var 2) ev_nil)))))⟩
theorem ok_parse_box {f : Addr} {fd : FuncData} (G : T K mg c) (F : Fun K "parse_box" "parse_box" s_parse_box f fd) (h_first_pair_line : Has P w K mg base 2 "first_pair_line" ["lines"] (spD K (m_first_pair_line c))) (h_stock_in : Has P w K mg base 8 "stock_in" ["lines", "most"] (spD K (m_stock_in c))) (h_pair_in : Has P w K mg base 3 "pair_in" ["line", "size"] (spD K (m_pair_in c))) (h_BadNote___init__ : HasX P w K mg base 1 "BadNote" c.BadNote ["self", "line"] (spX c.BadNote ["line"])) (h_Box___init__ : HasI P w K mg base 6 "Box" c.Box ["self", "stock", "pairs"] (spI K c.Box (m_Box___init__ c))) : FnOk P w K mg base (L2.CX P w) 9 f fd ["text"] (spD K (m_parse_box c)) := by
  refine def_is (m := mm_parse_box c) F sc_parse_box rfl rfl fun cdv A outer s H E hr => ?_
  exact ⟨_, (pss_cons (ps_set (i := 1) sc_parse_box.nd rfl (Or.inl rfl) (pe_bm PySem.F.plainAttrs_str PySem.F.slot_str_split PySem.F.type_str_split mt_split (pv 0) (pa_cons pe_str pa_nil))) (pss_cons (ps_set (i := 2) sc_parse_box.nd rfl (Or.inl rfl) (pe_cal h_first_pair_line hr rfl hxX (pa_cons (pv 1) pa_nil) (by decide))) (pss_cons (ps_set (i := 3) sc_parse_box.nd rfl (Or.inl rfl) (pe_cal h_stock_in hr rfl hxX (pa_cons (pe_slice sl_any (pv 1) po_none (po_some (pv 2))) (pa_cons (pe_gl G.g_MOST_BOX_STAMPS rfl) pa_nil)) (by decide))) (pss_cons (ps_set (i := 4) sc_parse_box.nd rfl (Or.inl rfl) (pe_lst pa_nil)) (pss_cons (ps_for poX rfl (pi_range2 rfl G.b_range (pa_cons (pv 2) (pa_cons (pe_callB call_len (by rfl) G.b_len (by decide +kernel) (pa_cons (pv 1) pa_nil)) pa_nil))) (pg_name (i := 5) sc_parse_box.nd rfl (Or.inl rfl)) (pss_cons (ps_set (i := 6) sc_parse_box.nd rfl (Or.inl rfl) (pe_cal h_pair_in hr rfl hxX (pa_cons (pe_ix ix_seq (pv 1) (pv 5) (fun _ _ => rfl)) (pa_cons (pe_fld (pv 3) rfl) pa_nil)) (by decide))) (pss_cons (ps_if (PW.pt (pw_or (pt_cmpR op_isN (pv 6) pe_non (nomark _)) (pw_or1 (pt_cmpR (op_eqP hr.units) (pe_callB call_len (by rfl) G.b_len (by decide +kernel) (pa_cons (pv 4) pa_nil)) (pe_gl G.g_MOST_PAIRS rfl) (nomark _))))) (pss_one (ps_raise rfl tkX (pmk_own' h_BadNote___init__ hr rfl hxF (pa_cons (pv 5) pa_nil) (by decide)))) pss_nil) (pss_one (ps_expr (pe_bm PySem.F.plainAttrs_list PySem.F.slot_list_append PySem.F.type_list_append mt_append (pv 4) (pa_cons (pv 6) pa_nil))))))) (pss_one (ps_ret (pe_mak h_Box___init__ hr rfl hxX (pa_cons (pv 3) (pa_cons (pv 4) pa_nil)) (by decide))))))))),
    (rn_seq (rn_set (i := 1) (xp_B fun δ => (ev_new (ev_nmb (P := P) (w := w) hm_split (ev_var 0) (ev_cons ev_str ev_nil))))) (rn_seq (rn_set (i := 2) (xp_B fun δ => (ev_call (ev_cons (ev_var 1) ev_nil)))) (rn_seq (rn_set (i := 3) (xp_B fun δ => (ev_call (ev_cons (ev_sl (ev_var 1) ev_noPart (ev_part (ev_var 2))) (ev_cons ev_int ev_nil))))) (rn_seq (rn_new (i := 4) fun δ => (ev_lst (P := P) (w := w) ev_nil)) (rn_seq (rn_for (fun δ => (ev_rng2 (ev_cons (ev_var 2) (ev_cons (ev_cb hc_len (ev_cons (ev_var 1) ev_nil)) ev_nil)))) (gt_name 5) (rn_seq (rn_set (i := 6) (xp_B fun δ => (ev_call (ev_cons (ev_op ha_ix (ev_var 1) (ev_var 5)) (ev_cons (ev_fld G.cl_Stock G.n_Stock_size (ev_var 3)) ev_nil))))) (rn_seq (rn_if (xt_or (xt_B fun δ => (ev_test (ev_op ha_isN (ev_var 6) ev_non))) (xt_V fun δ => (ev_test (ev_op ha_eq (ev_cb hc_len (ev_cons (ev_var 4) ev_nil)) ev_int)))) (rn_raise fun δ => (ev_cons (ev_var 5) ev_nil)) rn_nil) (rn_app (xp_C 4) (xp_B fun δ => (ev_var 6)))))) (rn_frz 4 (rn_ret (xr_B fun δ => (ev_make (ev_cons (ev_var 3) (ev_cons (ev_var 4) ev_nil)))))))))))⟩
theorem ok__law_is_layer {f : Addr} {fd : FuncData} (G : T K mg c) (F : Fun K "_law_is_layer" "_law_is_layer" s__law_is_layer f fd)  : FnOk P w K mg base (L2.CX P w) 1 f fd ["_law_size", "_law_word"] (spD K (m__law_is_layer c)) := by
  refine def_is (m := mm__law_is_layer c) F sc__law_is_layer rfl rfl fun cdv A outer s H E hr => ?_
  exact ⟨_, (pss_cons (ps_if (pt_cmpR (op_neP hr.units) (pe_callB call_len (by rfl) G.b_len (by decide +kernel) (pa_cons (pv 1) pa_nil)) (pv 0) (nomark _)) (pss_one (ps_ret pe_bl)) pss_nil) (pss_cons (ps_for poX rfl (pi_any (pv 1)) (pg_name (i := 2) sc__law_is_layer.nd rfl (Or.inl rfl)) (pss_one (ps_if (pt_cmpR op_notInA (pv 2) pe_str (by rfl)) (pss_one (ps_ret pe_bl)) pss_nil))) (pss_one (ps_ret pe_bl)))),
    (rn_seq (rn_if (xt_B fun δ => (ev_test (ev_op ha_ne (ev_cb hc_len (ev_cons (ev_var 1) ev_nil)) (ev_var 0)))) (rn_ret (xr_B fun δ => ev_bl)) rn_nil) (rn_seq (rn_for (fun δ => (ev_any (ev_var 1))) (gt_name 2) (rn_if (xt_B fun δ => (ev_test (ev_op ha_notIn (ev_var 2) ev_str))) (rn_ret (xr_B fun δ => ev_bl)) rn_nil)) (rn_ret (xr_B fun δ => ev_bl))))⟩
theorem ok__law_is_name {f : Addr} {fd : FuncData} (G : T K mg c) (F : Fun K "_law_is_name" "_law_is_name" s__law_is_name f fd)  : FnOk P w K mg base (L2.CX P w) 1 f fd ["_law_word"] (spD K (m__law_is_name c)) := by
  refine def_is (m := mm__law_is_name c) F sc__law_is_name rfl rfl fun cdv A outer s H E hr => ?_
  exact ⟨_, (pss_cons (ps_if (PW.pt (pw_or (pt_cmpR op_lt (pe_callB call_len (by rfl) G.b_len (by decide +kernel) (pa_cons (pv 0) pa_nil)) pe_int (nomark _)) (pw_or (pt_cmpR op_gt (pe_callB call_len (by rfl) G.b_len (by decide +kernel) (pa_cons (pv 0) pa_nil)) pe_int (nomark _)) (pw_or1 (pt_cmpR op_notInA (pe_ix ix_seq (pv 0) pe_int (fun _ _ => rfl)) pe_str (by rfl)))))) (pss_one (ps_ret pe_bl)) pss_nil) (pss_cons (ps_for poX rfl (pi_any (pv 0)) (pg_name (i := 1) sc__law_is_name.nd rfl (Or.inl rfl)) (pss_one (ps_if (pt_cmpR op_notInA (pv 1) pe_str (by rfl)) (pss_one (ps_ret pe_bl)) pss_nil))) (pss_one (ps_ret pe_bl)))),
    (rn_seq (rn_if (xt_B fun δ => (ev_or (ev_test (ev_op ha_lt (ev_cb hc_len (ev_cons (ev_var 0) ev_nil)) ev_int)) (ev_or (ev_test (ev_op ha_gt (ev_cb hc_len (ev_cons (ev_var 0) ev_nil)) ev_int)) (ev_test (ev_op ha_notIn (ev_op ha_ix (ev_var 0) ev_int) ev_str))))) (rn_ret (xr_B fun δ => ev_bl)) rn_nil) (rn_seq (rn_for (fun δ => (ev_any (ev_var 0))) (gt_name 1) (rn_if (xt_B fun δ => (ev_test (ev_op ha_notIn (ev_var 1) ev_str))) (rn_ret (xr_B fun δ => ev_bl)) rn_nil)) (rn_ret (xr_B fun δ => ev_bl))))⟩
theorem ok__law_read {f : Addr} {fd : FuncData} (G : T K mg c) (F : Fun K "_law_read" "_law_read" s__law_read f fd) (h__law_is_layer : Has P w K mg base 1 "_law_is_layer" ["_law_size", "_law_word"] (spD K (m__law_is_layer c))) (h__law_is_name : Has P w K mg base 1 "_law_is_name" ["_law_word"] (spD K (m__law_is_name c))) : FnOk P w K mg base (L2.CX P w) 2 f fd ["_law_note", "_law_most", "_law_count"] (spD K (m__law_read c)) := by
  refine def_is (m := mm__law_read c) F sc__law_read rfl rfl fun cdv A outer s H E hr => ?_
  exact ⟨_, (pss_cons (ps_set (i := 3) sc__law_read.nd rfl (Or.inl rfl) (pe_bm PySem.F.plainAttrs_str PySem.F.slot_str_split PySem.F.type_str_split mt_split (pv 0) (pa_cons pe_str pa_nil))) (pss_cons (ps_setLc (i := 4) (own := [("_law_k", 8)]) (g := (gName 8)) (tt := tYes) (te := (tOp (rAdd4 K) (tC (.str "stock ")) (tCB rStrI (tCons (tVar 8) tNil)))) rfl sc__law_read.nd rfl rfl (sw_true rfl rfl rfl (by decide +kernel)) (pi_range2 rfl G.b_range (pa_cons pe_int (pa_cons pe_int pa_nil))) (blkOk_by (N := ["_law_note", "_law_most", "_law_count", "_law_lines", "_law_firsts_here", "_law_size", "_law_stamps_here", "_law_pairs", "_law_k", "_law_words", "_law_stamp"]) (sc := defScope s__law_read) (by decide +kernel)) (fun _ _ _ _ _ => (pg_name (i := 8) sc__law_read.nd rfl (Or.inl rfl))) (fun _ _ _ _ _ => pts_nil) (fun _ _ _ _ _ => (pe_op op_addD pe_str (pe_callTy call_str_int (by rfl) G.b_str (by decide +kernel) (pa_cons (pv 8) pa_nil))))) (pss_cons (ps_if (pt_cmpR op_notInA (pe_ix ix_seq (pv 3) pe_int (fun _ _ => rfl)) (pv 4) (by rfl)) (pss_one (ps_ret (pe_lst (pa_cons pe_int (pa_cons pe_int (pa_cons (pe_lst pa_nil) (pa_cons (pe_lst pa_nil) pa_nil))))))) pss_nil) (pss_cons (ps_set (i := 5) sc__law_read.nd rfl (Or.inl rfl) (pe_op op_addD pe_int (pe_bm PySem.F.plainAttrs_list PySem.F.slot_list_index PySem.F.type_list_index mt_index (pv 4) (pa_cons (pe_ix ix_seq (pv 3) pe_int (fun _ _ => rfl)) pa_nil)))) (pss_cons (ps_set (i := 6) sc__law_read.nd rfl (Or.inl rfl) (pe_lst pa_nil)) (pss_cons (ps_set (i := 7) sc__law_read.nd rfl (Or.inl rfl) (pe_lst pa_nil)) (pss_cons (ps_for poX rfl (pi_range2 rfl G.b_range (pa_cons pe_int (pa_cons (pe_callB call_len (by rfl) G.b_len (by decide +kernel) (pa_cons (pv 3) pa_nil)) pa_nil))) (pg_name (i := 8) sc__law_read.nd rfl (Or.inl rfl)) (pss_cons (ps_set (i := 9) sc__law_read.nd rfl (Or.inl rfl) (pe_bm PySem.F.plainAttrs_str PySem.F.slot_str_split PySem.F.type_str_split mt_split (pe_ix ix_seq (pv 3) (pv 8) (fun _ _ => rfl)) (pa_cons pe_str pa_nil))) (pss_one (ps_if (PW.pt (pw_and (pt_cmpR (op_eqP hr.units) (pe_callB call_len (by rfl) G.b_len (by decide +kernel) (pa_cons (pv 9) pa_nil)) pe_int (nomark _)) (pw_and1 (pt_cmpR (op_eqP hr.units) (pe_ix ix_seq (pv 9) pe_int (fun _ _ => rfl)) pe_str (nomark _))))) (pss_cons (ps_if (PW.pt (pw_or (pt_not (pt_val (pe_cal h__law_is_layer hr rfl hxX (pa_cons (pv 5) (pa_cons (pe_ix ix_seq (pv 9) pe_int (fun _ _ => rfl)) pa_nil)) (by decide)))) (pw_or (pt_not (pt_val (pe_cal h__law_is_layer hr rfl hxX (pa_cons (pv 5) (pa_cons (pe_ix ix_seq (pv 9) pe_int (fun _ _ => rfl)) pa_nil)) (by decide)))) (pw_or1 (pt_cmpR (op_eqP hr.units) (pe_callB call_len (by rfl) G.b_len (by decide +kernel) (pa_cons (pv 7) pa_nil)) (pv 2) (nomark _)))))) (pss_one (ps_ret (pe_lst (pa_cons (pv 8) (pa_cons (pv 5) (pa_cons (pv 6) (pa_cons (pv 7) pa_nil))))))) pss_nil) (pss_one (ps_expr (pe_bm PySem.F.plainAttrs_list PySem.F.slot_list_append PySem.F.type_list_append mt_append (pv 7) (pa_cons (pe_tup (pa_cons (pe_ix ix_seq (pv 9) pe_int (fun _ _ => rfl)) (pa_cons (pe_ix ix_seq (pv 9) pe_int (fun _ _ => rfl)) pa_nil))) pa_nil))))) (pss_cons (ps_if (PW.pt (pw_or (pt_cmpR (op_neP hr.units) (pe_callB call_len (by rfl) G.b_len (by decide +kernel) (pa_cons (pv 9) pa_nil)) pe_int (nomark _)) (pw_or (pt_cmpR op_gt (pe_callB call_len (by rfl) G.b_len (by decide +kernel) (pa_cons (pv 7) pa_nil)) pe_int (nomark _)) (pw_or (pt_cmpR (op_eqP hr.units) (pe_callB call_len (by rfl) G.b_len (by decide +kernel) (pa_cons (pv 6) pa_nil)) (pv 1) (nomark _)) (pw_or1 (pt_not (pt_val (pe_cal h__law_is_name hr rfl hxX (pa_cons (pe_ix ix_seq (pv 9) pe_int (fun _ _ => rfl)) pa_nil) (by decide))))))))) (pss_one (ps_ret (pe_lst (pa_cons (pv 8) (pa_cons (pv 5) (pa_cons (pv 6) (pa_cons (pv 7) pa_nil))))))) pss_nil) (pss_cons (ps_if (PW.pt (pw_or (pt_not (pt_val (pe_cal h__law_is_layer hr rfl hxX (pa_cons (pv 5) (pa_cons (pe_ix ix_seq (pv 9) pe_int (fun _ _ => rfl)) pa_nil)) (by decide)))) (pw_or1 (pt_cmpR (op_eqP hr.units) (pe_ix ix_seq (pv 9) pe_int (fun _ _ => rfl)) (pe_op op_mulD pe_str (pv 5)) (nomark _))))) (pss_one (ps_ret (pe_lst (pa_cons (pv 8) (pa_cons (pv 5) (pa_cons (pv 6) (pa_cons (pv 7) pa_nil))))))) pss_nil) (pss_cons (ps_if (pt_cmpR op_inA (pe_ix ix_seq (pv 9) pe_int (fun _ _ => rfl)) (pe_lc (own := [("_law_stamp", 10)]) (g := (gName 10)) (tt := tYes) (te := (tOp (rIx K) (tVar 10) (tC (.int 0)))) rfl sc__law_read.nd (pi_any (pv 6)) (blkOk_by (N := ["_law_note", "_law_most", "_law_count", "_law_lines", "_law_firsts_here", "_law_size", "_law_stamps_here", "_law_pairs", "_law_k", "_law_words", "_law_stamp"]) (sc := defScope s__law_read) (by decide +kernel)) (fun _ _ _ _ _ => (pg_name (i := 10) sc__law_read.nd rfl (Or.inl rfl))) (fun _ _ _ _ _ => pts_nil) (fun _ _ _ _ _ => (pe_ix ix_seq (pv 10) pe_int (fun _ _ => rfl)))) (by rfl)) (pss_one (ps_ret (pe_lst (pa_cons (pv 8) (pa_cons (pv 5) (pa_cons (pv 6) (pa_cons (pv 7) pa_nil))))))) pss_nil) (pss_one (ps_expr (pe_bm PySem.F.plainAttrs_list PySem.F.slot_list_append PySem.F.type_list_append mt_append (pv 6) (pa_cons (pe_tup (pa_cons (pe_ix ix_seq (pv 9) pe_int (fun _ _ => rfl)) (pa_cons (pe_ix ix_seq (pv 9) pe_int (fun _ _ => rfl)) pa_nil))) pa_nil))))))))))) (pss_one (ps_ret (pe_lst (pa_cons pe_non (pa_cons (pv 5) (pa_cons (pv 6) (pa_cons (pv 7) pa_nil)))))))))))))),
    (rn_seq (rn_set (i := 3) (xp_B fun δ => (ev_new (ev_nmb (P := P) (w := w) hm_split (ev_var 0) (ev_cons ev_str ev_nil))))) (rn_seq (rn_set (xp_B fun δ => (ev_new (ev_lc (P := P) (w := w) (vs := [8]) (ev_rng2 (ev_cons ev_int (ev_cons ev_int ev_nil))) (ge_name 8) ev_yes (fun δ => (ev_op ha_add ev_str (ev_cb hc_str (ev_cons (ev_var 8) ev_nil)))))))) (rn_seq (rn_if (xt_B fun δ => (ev_test (ev_op ha_notIn (ev_op ha_ix (ev_var 3) ev_int) (ev_var 4)))) (rn_ret (xr_B fun δ => (ev_new (ev_lst (P := P) (w := w) (ev_cons ev_int (ev_cons ev_int (ev_cons (ev_new (ev_lst (P := P) (w := w) ev_nil)) (ev_cons (ev_new (ev_lst (P := P) (w := w) ev_nil)) ev_nil)))))))) rn_nil) (rn_seq (rn_set (i := 5) (xp_B fun δ => (ev_op ha_add ev_int (ev_mb hm_index (ev_var 4) (ev_cons (ev_op ha_ix (ev_var 3) ev_int) ev_nil))))) (rn_seq (rn_new (i := 6) fun δ => (ev_lst (P := P) (w := w) ev_nil)) (rn_seq (rn_new (i := 7) fun δ => (ev_lst (P := P) (w := w) ev_nil)) (rn_seq (rn_for (fun δ => (ev_rng2 (ev_cons ev_int (ev_cons (ev_cb hc_len (ev_cons (ev_var 3) ev_nil)) ev_nil)))) (gt_name 8) (rn_seq (rn_set (i := 9) (xp_B fun δ => (ev_new (ev_nmb (P := P) (w := w) hm_split (ev_op ha_ix (ev_var 3) (ev_var 8)) (ev_cons ev_str ev_nil))))) (rn_if (xt_B fun δ => (ev_and (ev_test (ev_op ha_eq (ev_cb hc_len (ev_cons (ev_var 9) ev_nil)) ev_int)) (ev_test (ev_op ha_eq (ev_op ha_ix (ev_var 9) ev_int) ev_str)))) (rn_seq (rn_if (xt_or (xt_B fun δ => (ev_not (ev_tB (ev_call (ev_cons (ev_var 5) (ev_cons (ev_op ha_ix (ev_var 9) ev_int) ev_nil)))))) (xt_or (xt_B fun δ => (ev_not (ev_tB (ev_call (ev_cons (ev_var 5) (ev_cons (ev_op ha_ix (ev_var 9) ev_int) ev_nil)))))) (xt_V fun δ => (ev_test (ev_op ha_eq (ev_cb hc_len (ev_cons (ev_var 7) ev_nil)) (ev_var 2)))))) (rn_ret (xr_V fun δ => (ev_new (ev_lst (P := P) (w := w) (ev_cons (ev_var 8) (ev_cons (ev_var 5) (ev_cons (ev_var 6) (ev_cons (ev_var 7) ev_nil)))))))) rn_nil) (rn_app (xp_C 7) (xp_B fun δ => (ev_tup (ev_cons (ev_op ha_ix (ev_var 9) ev_int) (ev_cons (ev_op ha_ix (ev_var 9) ev_int) ev_nil)))))) (rn_seq (rn_if (xt_or (xt_B fun δ => (ev_test (ev_op ha_ne (ev_cb hc_len (ev_cons (ev_var 9) ev_nil)) ev_int))) (xt_or (xt_V fun δ => (ev_test (ev_op ha_gt (ev_cb hc_len (ev_cons (ev_var 7) ev_nil)) ev_int))) (xt_or (xt_V fun δ => (ev_test (ev_op ha_eq (ev_cb hc_len (ev_cons (ev_var 6) ev_nil)) (ev_var 1)))) (xt_B fun δ => (ev_not (ev_tB (ev_call (ev_cons (ev_op ha_ix (ev_var 9) ev_int) ev_nil)))))))) (rn_ret (xr_V fun δ => (ev_new (ev_lst (P := P) (w := w) (ev_cons (ev_var 8) (ev_cons (ev_var 5) (ev_cons (ev_var 6) (ev_cons (ev_var 7) ev_nil)))))))) rn_nil) (rn_seq (rn_if (xt_B fun δ => (ev_or (ev_not (ev_tB (ev_call (ev_cons (ev_var 5) (ev_cons (ev_op ha_ix (ev_var 9) ev_int) ev_nil))))) (ev_test (ev_op ha_eq (ev_op ha_ix (ev_var 9) ev_int) (ev_op ha_mul ev_str (ev_var 5)))))) (rn_ret (xr_V fun δ => (ev_new (ev_lst (P := P) (w := w) (ev_cons (ev_var 8) (ev_cons (ev_var 5) (ev_cons (ev_var 6) (ev_cons (ev_var 7) ev_nil)))))))) rn_nil) (rn_seq (rn_if (xt_V fun δ => (ev_test (ev_op ha_in (ev_op ha_ix (ev_var 9) ev_int) (ev_new (ev_lc (P := P) (w := w) (vs := [10]) (ev_any (ev_var 6)) (ge_name 10) ev_yes (fun δ => (ev_op ha_ix (ev_var 10) ev_int))))))) (rn_ret (xr_V fun δ => (ev_new (ev_lst (P := P) (w := w) (ev_cons (ev_var 8) (ev_cons (ev_var 5) (ev_cons (ev_var 6) (ev_cons (ev_var 7) ev_nil)))))))) rn_nil) (rn_app (xp_C 6) (xp_B fun δ => (ev_tup (ev_cons (ev_op ha_ix (ev_var 9) ev_int) (ev_cons (ev_op ha_ix (ev_var 9) ev_int) ev_nil))))))))))) (rn_frz 6 (rn_frz 7 (rn_ret (xr_B fun δ => (ev_new (ev_lst (P := P) (w := w) (ev_cons ev_non (ev_cons (ev_var 5) (ev_cons (ev_var 6) (ev_cons (ev_var 7) ev_nil)))))))))))))))))⟩
theorem ok__law_told {f : Addr} {fd : FuncData} (G : T K mg c) (F : Fun K "_law_told" "_law_told" s__law_told f fd) (h_parse_stockN : HasN P w K mg base 9 "parse_stock" ["text"] 0 ["text"] (spD K (m_parse_stock c))) (h_parse_stock : Has P w K mg base 9 "parse_stock" ["text"] (spD K (m_parse_stock c))) (h_parse_boxN : HasN P w K mg base 9 "parse_box" ["text"] 0 ["text"] (spD K (m_parse_box c))) (h_parse_box : Has P w K mg base 9 "parse_box" ["text"] (spD K (m_parse_box c))) : FnOk P w K mg base (L2.CX P w) 10 f fd ["_law_word", "_law_note", "_law_named"] (spD K (m__law_told c)) := by
  refine def_is (m := mm__law_told c) F sc__law_told rfl rfl fun cdv A outer s H E hr => ?_
  exact ⟨_, (pss_one (ps_try_as (i := 3) rfl rfl sc__law_told.nd rfl rfl ⟨rfl, by decide, .inl G.mx_StampError⟩ tkX (fun W pn xe tk po => (pss_cons (ps_if (PW.pt (pw_and (pt_cmpR (op_eqP hr.units) (pv 0) pe_str (nomark _)) (pw_and1 (pt_val (pv 2))))) (pss_one (ps_ret (pe_lst (pa_cons (pe_calNS0 h_parse_stockN hr rfl (fun σ => passAt tk σ) (pk_cons (pv 1) pk_nil) (by decide)) (pa_cons pe_non (pa_cons pe_bl pa_nil)))))) pss_nil) (pss_cons (ps_if (pt_cmpR (op_eqP hr.units) (pv 0) pe_str (nomark _)) (pss_one (ps_ret (pe_lst (pa_cons (pe_calS h_parse_stock hr rfl (fun σ => passAt tk σ) (pa_cons (pv 1) pa_nil) (by decide)) (pa_cons pe_non (pa_cons pe_bl pa_nil)))))) pss_nil) (pss_cons (ps_if (pt_val (pv 2)) (pss_one (ps_ret (pe_lst (pa_cons (pe_calNS0 h_parse_boxN hr rfl (fun σ => passAt tk σ) (pk_cons (pv 1) pk_nil) (by decide)) (pa_cons pe_non (pa_cons pe_bl pa_nil)))))) pss_nil) (pss_one (ps_ret (pe_lst (pa_cons (pe_calS h_parse_box hr rfl (fun σ => passAt tk σ) (pa_cons (pv 1) pa_nil) (by decide)) (pa_cons pe_non (pa_cons pe_bl pa_nil)))))))))) (fun a oe cls d pn hz hf => (pss_cons (ps_set (i := 4) sc__law_told.nd rfl (Or.inl rfl) (pe_lst (pa_cons (pe_callB (call_isC hz hf) (by rfl) G.b_isinstance (by decide +kernel) (pa_cons (pv 3) (pa_cons (pe_gl G.kx_BadName rfl) pa_nil))) (pa_cons (pe_callB (call_isC hz hf) (by rfl) G.b_isinstance (by decide +kernel) (pa_cons (pv 3) (pa_cons (pe_gl G.kx_BadStamp rfl) pa_nil))) (pa_cons (pe_callB (call_isC hz hf) (by rfl) G.b_isinstance (by decide +kernel) (pa_cons (pv 3) (pa_cons (pe_gl G.kx_NameTaken rfl) pa_nil))) pa_nil))))) (pss_cons (ps_set (i := 4) sc__law_told.nd rfl (Or.inl rfl) (pe_op op_addD (pv 4) (pe_lst (pa_cons (pe_callB (call_isC hz hf) (by rfl) G.b_isinstance (by decide +kernel) (pa_cons (pv 3) (pa_cons (pe_gl G.kx_UnknownName rfl) pa_nil))) (pa_cons (pe_callB (call_isC hz hf) (by rfl) G.b_isinstance (by decide +kernel) (pa_cons (pv 3) (pa_cons (pe_gl G.kx_BadClaimText rfl) pa_nil))) pa_nil))))) (pss_cons (ps_if (pt_not (pt_val (pe_callB (call_isC hz hf) (by rfl) G.b_isinstance (by decide +kernel) (pa_cons (pv 3) (pa_cons (pe_gl G.kx_BadNote rfl) pa_nil))))) (pss_one (ps_ret (pe_lst (pa_cons pe_non (pa_cons (pe_un un_neg pe_int) (pa_cons pe_bl pa_nil)))))) pss_nil) (pss_one (ps_ret (pe_lst (pa_cons pe_non (pa_cons (pe_xf G.xf_BadNote G.n_BadNote_line hz hf (pv 3)) (pa_cons (pe_and (pe_cmpR op_notInA pe_bl (pv 4) (by rfl)) (pe_one (pe_callB (call_isC hz hf) (by rfl) G.b_isinstance (by decide +kernel) (pa_cons (pv 3) (pa_cons (pe_bltn (v := .ty "ValueError") (by rfl) G.b_ValueError (by decide +kernel) rfl) pa_nil))))) pa_nil)))))))))))),
    (rn_try (n := 5) (i := 3) (cx := .ref c.StampError) (catch_ := mc__law_told c) (hm := mh__law_told c) (fun W => (rn_seq (rn_if (xt_B fun δ => (ev_and (ev_test (ev_op ha_eq (ev_var 0) ev_str)) (ev_tB (ev_var 2)))) (rn_ret (xr_B fun δ => (ev_new (ev_lst (P := P) (w := w) (ev_cons (ev_callNS ev_nil (ev_cons (ev_var 1) ev_nil)) (ev_cons ev_non (ev_cons ev_bl ev_nil))))))) rn_nil) (rn_seq (rn_if (xt_B fun δ => (ev_test (ev_op ha_eq (ev_var 0) ev_str))) (rn_ret (xr_B fun δ => (ev_new (ev_lst (P := P) (w := w) (ev_cons (ev_callS (ev_cons (ev_var 1) ev_nil)) (ev_cons ev_non (ev_cons ev_bl ev_nil))))))) rn_nil) (rn_seq (rn_if (xt_B fun δ => (ev_tB (ev_var 2))) (rn_ret (xr_B fun δ => (ev_new (ev_lst (P := P) (w := w) (ev_cons (ev_callNS ev_nil (ev_cons (ev_var 1) ev_nil)) (ev_cons ev_non (ev_cons ev_bl ev_nil))))))) rn_nil) (rn_ret (xr_B fun δ => (ev_new (ev_lst (P := P) (w := w) (ev_cons (ev_callS (ev_cons (ev_var 1) ev_nil)) (ev_cons ev_non (ev_cons ev_bl ev_nil)))))))))))
    (fun C b h => by
      unfold mc__law_told at h
      split at h
      · rename_i hh
        cases h
        rw [hh]; exact G.xm_BadNote_StampError
      · cases h)
    (fun a d x h => by
      unfold mh__law_told
      by_cases hBadNote : x.c = c.BadNote
      · rw [if_pos hBadNote, hBadNote]
        exact (rn_seq (rn_set (i := 4) (xp_B fun δ => (ev_new (ev_lst (P := P) (w := w) (ev_cons (ev_isx rfl G.xc_BadNote (fun _ h => h) G.is_BadNote_BadName (ev_var 3)) (ev_cons (ev_isx rfl G.xc_BadNote (fun _ h => h) G.is_BadNote_BadStamp (ev_var 3)) (ev_cons (ev_isx rfl G.xc_BadNote (fun _ h => h) G.is_BadNote_NameTaken (ev_var 3)) ev_nil))))))) (rn_seq (rn_set (i := 4) (xp_B fun δ => (ev_op ha_add (ev_var 4) (ev_new (ev_lst (P := P) (w := w) (ev_cons (ev_isx rfl G.xc_BadNote (fun _ h => h) G.is_BadNote_UnknownName (ev_var 3)) (ev_cons (ev_isx rfl G.xc_BadNote (fun _ h => h) G.is_BadNote_BadClaimText (ev_var 3)) ev_nil))))))) (rn_seq (rn_if (xt_B fun δ => (ev_not (ev_tB (ev_isx rfl G.xc_BadNote (fun _ h => h) G.is_BadNote_BadNote (ev_var 3))))) (rn_ret (xr_B fun δ => (ev_new (ev_lst (P := P) (w := w) (ev_cons ev_non (ev_cons (ev_un ha_neg ev_int) (ev_cons ev_bl ev_nil))))))) rn_nil) (rn_ret (xr_B fun δ => (ev_new (ev_lst (P := P) (w := w) (ev_cons ev_non (ev_cons (ev_xfld rfl (ev_var 3)) (ev_cons (ev_andV (ev_op ha_notIn ev_bl (ev_var 4)) (ev_isx rfl G.xc_BadNote (fun _ h => h) G.is_BadNote_ValueError (ev_var 3))) ev_nil))))))))))
      rw [if_neg hBadNote]
      unfold mc__law_told at h
      rw [if_neg (by simp [hBadNote])] at h
      cases h)
    (he__law_told c))⟩
theorem ok__law_whole {f : Addr} {fd : FuncData} (G : T K mg c) (F : Fun K "_law_whole" "_law_whole" s__law_whole f fd)  : FnOk P w K mg base (L2.CX P w) 1 f fd ["_law_value"] (spD K (m__law_whole c)) := by
  refine def_is (m := mm__law_whole c) F sc__law_whole rfl rfl fun cdv A outer s H E hr => ?_
  exact ⟨_, (pss_one (ps_ret (pe_and (pe_callB call_isi (by rfl) G.b_isinstance (by decide +kernel) (pa_cons (pv 0) (pa_cons (pe_bltn (v := .ty "int") (by rfl) G.b_int (by decide +kernel) rfl) pa_nil))) (pe_one (pe_not (pe_callB call_isi (by rfl) G.b_isinstance (by decide +kernel) (pa_cons (pv 0) (pa_cons (pe_bltn (v := .ty "bool") (by rfl) G.b_bool (by decide +kernel) rfl) pa_nil)))))))),
    (rn_ret (xr_B fun δ => (ev_andV (ev_isi (.ty "int") (isa_B "int") (ev_var 0)) (ev_notV (ev_isi (.ty "bool") (isa_B "bool") (ev_var 0))))))⟩
theorem ok__law_alike {f : Addr} {fd : FuncData} (G : T K mg c) (F : Fun K "_law_alike" "_law_alike" s__law_alike f fd) (gf : mg "_law_alike" = some (.ref f)) (kf : PySem.W.keepIn K (.ref f) = true) (bf : Binds K fd ["_law_told_here", "_law_due"] []) (h__law_whole : Has P w K mg base 1 "_law_whole" ["_law_value"] (spD K (m__law_whole c))) : ∀ n, FnOk P w K mg base (L2.CX P w) (n + 2) f fd ["_law_told_here", "_law_due"] (spD K (m__law_alike c n)) := by
  intro n
  induction n with
  | zero => exact def_bad F sc__law_alike
  | succ n ih =>
    have hself : Has P w K mg base (n + 2) "_law_alike" ["_law_told_here", "_law_due"] (spD K (m__law_alike c n)) := ⟨f, fd, gf, kf, bf, ih⟩
    refine def_is (m := mg__law_alike c (m__law_alike c n)) F sc__law_alike rfl rfl fun cdv A outer s H E hr => ?_
    exact ⟨_, (pss_cons (ps_if (pt_cmpR op_isN (pv 1) pe_non (nomark _)) (pss_one (ps_ret (pe_cmpR op_isN (pv 0) pe_non (nomark _)))) pss_nil) (pss_cons (ps_if (pt_cmpR op_isB (pv 1) pe_bl (nomark _)) (pss_one (ps_ret (pe_cmpR op_isB (pv 0) pe_bl (nomark _)))) pss_nil) (pss_cons (ps_if (pt_cmpR op_isB (pv 1) pe_bl (nomark _)) (pss_one (ps_ret (pe_cmpR op_isB (pv 0) pe_bl (nomark _)))) pss_nil) (pss_cons (ps_if (pt_val (pe_callB call_isi (by rfl) G.b_isinstance (by decide +kernel) (pa_cons (pv 1) (pa_cons (pe_bltn (v := .ty "str") (by rfl) G.b_str (by decide +kernel) rfl) pa_nil)))) (pss_one (ps_ret (pe_and (pe_callB call_isi (by rfl) G.b_isinstance (by decide +kernel) (pa_cons (pv 0) (pa_cons (pe_bltn (v := .ty "str") (by rfl) G.b_str (by decide +kernel) rfl) pa_nil))) (pe_one (pe_cmpR (op_eqP hr.units) (pv 0) (pv 1) (nomark _)))))) pss_nil) (pss_cons (ps_if (pt_val (pe_callB call_isi (by rfl) G.b_isinstance (by decide +kernel) (pa_cons (pv 1) (pa_cons (pe_bltn (v := .ty "int") (by rfl) G.b_int (by decide +kernel) rfl) pa_nil)))) (pss_one (ps_ret (pe_and (pe_cal h__law_whole hr rfl hxX (pa_cons (pv 0) pa_nil) (by omega)) (pe_one (pe_cmpR (op_eqP hr.units) (pv 0) (pv 1) (nomark _)))))) pss_nil) (pss_cons (ps_if (PW.pt (pw_or (pt_not (pt_val (pe_callB call_isi (by rfl) G.b_isinstance (by decide +kernel) (pa_cons (pv 0) (pa_cons (pe_bltn (v := .ty "tuple") (by rfl) G.b_tuple (by decide +kernel) rfl) pa_nil))))) (pw_or1 (pt_cmpR (op_neP hr.units) (pe_callB call_len (by rfl) G.b_len (by decide +kernel) (pa_cons (pv 0) pa_nil)) (pe_callB call_len (by rfl) G.b_len (by decide +kernel) (pa_cons (pv 1) pa_nil)) (nomark _))))) (pss_one (ps_ret pe_bl)) pss_nil) (pss_cons (ps_for poX rfl (pi_range1 rfl G.b_range (pa_cons (pe_callB call_len (by rfl) G.b_len (by decide +kernel) (pa_cons (pv 1) pa_nil)) pa_nil)) (pg_name (i := 2) sc__law_alike.nd rfl (Or.inl rfl)) (pss_one (ps_if (pt_not (pt_val (pe_cal hself hr rfl hxX (pa_cons (pe_ix ix_seq (pv 0) (pv 2) (fun _ _ => rfl)) (pa_cons (pe_ix ix_seq (pv 1) (pv 2) (fun _ _ => rfl)) pa_nil)) (by omega)))) (pss_one (ps_ret pe_bl)) pss_nil))) (pss_one (ps_ret pe_bl))))))))),
      (rn_seq (rn_if (xt_B fun δ => (ev_test (ev_op ha_isN (ev_var 1) ev_non))) (rn_ret (xr_B fun δ => (ev_op ha_isN (ev_var 0) ev_non))) rn_nil) (rn_seq (rn_if (xt_B fun δ => (ev_test (ev_op ha_isB (ev_var 1) ev_bl))) (rn_ret (xr_B fun δ => (ev_op ha_isB (ev_var 0) ev_bl))) rn_nil) (rn_seq (rn_if (xt_B fun δ => (ev_test (ev_op ha_isB (ev_var 1) ev_bl))) (rn_ret (xr_B fun δ => (ev_op ha_isB (ev_var 0) ev_bl))) rn_nil) (rn_seq (rn_if (xt_B fun δ => (ev_tB (ev_isi (.ty "str") (isa_B "str") (ev_var 1)))) (rn_ret (xr_B fun δ => (ev_andV (ev_isi (.ty "str") (isa_B "str") (ev_var 0)) (ev_op ha_eq (ev_var 0) (ev_var 1))))) rn_nil) (rn_seq (rn_if (xt_B fun δ => (ev_tB (ev_isi (.ty "int") (isa_B "int") (ev_var 1)))) (rn_ret (xr_B fun δ => (ev_andV (ev_call (ev_cons (ev_var 0) ev_nil)) (ev_op ha_eq (ev_var 0) (ev_var 1))))) rn_nil) (rn_seq (rn_if (xt_B fun δ => (ev_or (ev_not (ev_tB (ev_isi (.ty "tuple") (isa_B "tuple") (ev_var 0)))) (ev_test (ev_op ha_ne (ev_cb hc_len (ev_cons (ev_var 0) ev_nil)) (ev_cb hc_len (ev_cons (ev_var 1) ev_nil)))))) (rn_ret (xr_B fun δ => ev_bl)) rn_nil) (rn_seq (rn_for (fun δ => (ev_rng1 (ev_cons (ev_cb hc_len (ev_cons (ev_var 1) ev_nil)) ev_nil))) (gt_name 2) (rn_if (xt_B fun δ => (ev_not (ev_tB (ev_call (ev_cons (ev_op ha_ix (ev_var 0) (ev_var 2)) (ev_cons (ev_op ha_ix (ev_var 1) (ev_var 2)) ev_nil)))))) (rn_ret (xr_B fun δ => ev_bl)) rn_nil)) (rn_ret (xr_B fun δ => ev_bl)))))))))⟩
theorem ok_Stock_names {f : Addr} {fd : FuncData} (G : T K mg c) (F : Fun K "names" "Stock.names" s_Stock_names f fd)  : FnOk P w K mg base (L2.CX P w) 1 f fd ["self"] (spD K (m_Stock_names c)) := by
  refine def_is (m := mm_Stock_names c) F sc_Stock_names rfl rfl fun cdv A outer s H E hr => ?_
  exact ⟨_, (pss_one (ps_ret (pe_callTy call_tuple_of (by rfl) G.b_tuple (by decide +kernel) (pa_cons (pe_lc (own := [("pair", 1)]) (g := (gName 1)) (tt := tYes) (te := (tOp (rIx K) (tVar 1) (tC (.int 0)))) rfl sc_Stock_names.nd (pi_any (pe_fld (pv 0) rfl)) (blkOk_by (N := ["self", "pair"]) (sc := defScope s_Stock_names) (by decide +kernel)) (fun _ _ _ _ _ => (pg_name (i := 1) sc_Stock_names.nd rfl (Or.inl rfl))) (fun _ _ _ _ _ => pts_nil) (fun _ _ _ _ _ => (pe_ix ix_seq (pv 1) pe_int (fun _ _ => rfl)))) pa_nil)))),
    (rn_ret (xr_B fun δ => (ev_cb hc_tuple (ev_cons (ev_new (ev_lc (P := P) (w := w) (vs := [1]) (ev_any (ev_fld G.cl_Stock G.n_Stock_stamps (ev_var 0))) (ge_name 1) ev_yes (fun δ => (ev_op ha_ix (ev_var 1) ev_int)))) ev_nil))))⟩
theorem ok_Stock___eq__ {f : Addr} {fd : FuncData} (G : T K mg c) (F : Fun K "__eq__" "Stock.__eq__" s_Stock___eq__ f fd)  : FnOk P w K mg base (L2.CX P w) 1 f fd ["self", "other"] (spD K (m_Stock___eq__ c)) := by
  refine def_is (m := mm_Stock___eq__ c) F sc_Stock___eq__ rfl rfl fun cdv A outer s H E hr => ?_
  exact ⟨_, (pss_one (ps_ret (pe_and (pe_callB call_isi (by rfl) G.b_isinstance (by decide +kernel) (pa_cons (pv 1) (pa_cons (pe_gl G.k_Stock rfl) pa_nil))) (pe_and (pe_cmpR (op_eqP hr.units) (pe_fld (pv 0) rfl) (pe_fld (pv 1) rfl) (nomark _)) (pe_one (pe_cmpR (op_eqP hr.units) (pe_fld (pv 0) rfl) (pe_fld (pv 1) rfl) (nomark _))))))),
    (rn_ret (xr_B fun δ => (ev_andV (ev_isi (.own c.Stock) (isa_C G.o_Stock) (ev_var 1)) (ev_andV (ev_op ha_eq (ev_fld G.cl_Stock G.n_Stock_size (ev_var 0)) (ev_fld G.cl_Stock G.n_Stock_size (ev_var 1))) (ev_op ha_eq (ev_fld G.cl_Stock G.n_Stock_stamps (ev_var 0)) (ev_fld G.cl_Stock G.n_Stock_stamps (ev_var 1)))))))⟩
theorem ok__law_is_stock {f : Addr} {fd : FuncData} (G : T K mg c) (F : Fun K "_law_is_stock" "_law_is_stock" s__law_is_stock f fd) (h__law_alike : Has P w K mg base 6 "_law_alike" ["_law_told_here", "_law_due"] (spD K (m__law_alike c 4))) (h_Stock_names : HasP P w K mg base 1 c.Stock "names" ["self"] (spD K (m_Stock_names c))) (h_Stock___eq__ : HasM P w K mg base 1 c.Stock "__eq__" ["self", "other"] (spD K (m_Stock___eq__ c))) (h_Stock___init__ : HasI P w K mg base 6 "Stock" c.Stock ["self", "size", "stamps"] (spI K c.Stock (m_Stock___init__ c))) : FnOk P w K mg base (L2.CX P w) 8 f fd ["_law_read_here", "_law_size", "_law_stamps_here"] (spD K (m__law_is_stock c)) := by
  refine def_is (m := mm__law_is_stock c) F sc__law_is_stock rfl rfl fun cdv A outer s H E hr => ?_
  exact ⟨_, (pss_cons (ps_if (PW.pt (pw_or (pt_not (pt_val (pe_callB call_isi (by rfl) G.b_isinstance (by decide +kernel) (pa_cons (pv 0) (pa_cons (pe_gl G.k_Stock rfl) pa_nil))))) (pw_or (pt_not (pt_val (pe_cal h__law_alike hr rfl hxX (pa_cons (pe_fld (pv 0) rfl) (pa_cons (pv 1) pa_nil)) (by decide)))) (pw_or1 (pt_not (pt_val (pe_cal h__law_alike hr rfl hxX (pa_cons (pe_fld (pv 0) rfl) (pa_cons (pe_callTy call_tuple_of (by rfl) G.b_tuple (by decide +kernel) (pa_cons (pv 2) pa_nil)) pa_nil)) (by decide)))))))) (pss_one (ps_ret pe_bl)) pss_nil) (pss_one (ps_ret (pe_and (pe_cal h__law_alike hr rfl hxX (pa_cons (pe_prp h_Stock_names G.cl_Stock hr passL (pv 0) (by decide) rfl) (pa_cons (pe_callTy call_tuple_of (by rfl) G.b_tuple (by decide +kernel) (pa_cons (pe_lc (own := [("_law_stamp", 3)]) (g := (gName 3)) (tt := tYes) (te := (tOp (rIx K) (tVar 3) (tC (.int 0)))) rfl sc__law_is_stock.nd (pi_any (pv 2)) (blkOk_by (N := ["_law_read_here", "_law_size", "_law_stamps_here", "_law_stamp"]) (sc := defScope s__law_is_stock) (by decide +kernel)) (fun _ _ _ _ _ => (pg_name (i := 3) sc__law_is_stock.nd rfl (Or.inl rfl))) (fun _ _ _ _ _ => pts_nil) (fun _ _ _ _ _ => (pe_ix ix_seq (pv 3) pe_int (fun _ _ => rfl)))) pa_nil)) pa_nil)) (by decide)) (pe_one (pe_cmpR (op_eqI h_Stock___eq__ hr hxX) (pv 0) (pe_mak h_Stock___init__ hr rfl hxX (pa_cons (pv 1) (pa_cons (pv 2) pa_nil)) (by decide)) (nomark _))))))),
    (rn_seq (rn_if (xt_B fun δ => (ev_or (ev_not (ev_tB (ev_isi (.own c.Stock) (isa_C G.o_Stock) (ev_var 0)))) (ev_or (ev_not (ev_tB (ev_call (ev_cons (ev_fld G.cl_Stock G.n_Stock_size (ev_var 0)) (ev_cons (ev_var 1) ev_nil))))) (ev_not (ev_tB (ev_call (ev_cons (ev_fld G.cl_Stock G.n_Stock_stamps (ev_var 0)) (ev_cons (ev_cb hc_tuple (ev_cons (ev_var 2) ev_nil)) ev_nil)))))))) (rn_ret (xr_B fun δ => ev_bl)) rn_nil) (rn_ret (xr_B fun δ => (ev_andV (ev_call (ev_cons (ev_prop (E := E0) (ev_var 0)) (ev_cons (ev_cb hc_tuple (ev_cons (ev_new (ev_lc (P := P) (w := w) (vs := [3]) (ev_any (ev_var 2)) (ge_name 3) ev_yes (fun δ => (ev_op ha_ix (ev_var 3) ev_int)))) ev_nil)) ev_nil))) (ev_eqI (ev_var 0) (ev_make (ev_cons (ev_var 1) (ev_cons (ev_var 2) ev_nil))))))))⟩
theorem ok_stock_lines {f : Addr} {fd : FuncData} (G : T K mg c) (F : Fun K "stock_lines" "stock_lines" s_stock_lines f fd)  : FnOk P w K mg base (L2.CX P w) 1 f fd ["stock"] (spD K (m_stock_lines c)) := by
  refine def_is (m := mm_stock_lines c) F sc_stock_lines rfl rfl fun cdv A outer s H E hr => ?_
  exact ⟨_, (pss_one (ps_ret (pe_lst (pa_cons (pe_joined (PJ.cons (pe_fmt (pe_gl G.g_STOCK_WORD rfl)) (PJ.cons (pe_fmt (pe_fld (pv 0) rfl)) PJ.nil))) (StX.pa_star (pe_lc (own := [("name", 1), ("stamp", 2)]) (g := (gTup K 2 (gCons (gName 1) (gCons (gName 2) gNil)))) (tt := tYes) (te := (fun σ H Q => tJs [(tFmt (tVar 1)), (tC (.str " ")), (tFmt (tVar 2))] Str.empty σ H fun out H1 => Q (.str out) H1)) rfl sc_stock_lines.nd (pi_any (pe_fld (pv 0) rfl)) (blkOk_by (N := ["stock", "name", "stamp"]) (sc := defScope s_stock_lines) (by decide +kernel)) (fun _ _ _ _ _ => (pg_tup (by rfl) (pgs_cons (pg_name (i := 1) sc_stock_lines.nd rfl (Or.inl rfl)) (pgs_cons (pg_name (i := 2) sc_stock_lines.nd rfl (Or.inl rfl)) pgs_nil)))) (fun _ _ _ _ _ => pts_nil) (fun _ _ _ _ _ => (pe_joined (PJ.cons (pe_fmt (pv 1)) (PJ.cons pe_str (PJ.cons (pe_fmt (pv 2)) PJ.nil)))))) pa_nil))))),
    (rn_ret (xr_B fun δ => (ev_new (ev_lst (P := P) (w := w) (ev_cons (ev_joined (EvJ.cons (ev_fmt ev_str) (EvJ.cons (ev_fmt (ev_fld G.cl_Stock G.n_Stock_size (ev_var 0))) EvJ.nil))) (ev_star (ev_new (ev_lc (P := P) (w := w) (vs := [1, 2]) (ev_any (ev_fld G.cl_Stock G.n_Stock_stamps (ev_var 0))) (ge_tup (ges_cons (ge_name 1) (ges_cons (ge_name 2) ges_nil))) ev_yes (fun δ => (ev_joined (EvJ.cons (ev_fmt (ev_var 1)) (EvJ.cons ev_str (EvJ.cons (ev_fmt (ev_var 2)) EvJ.nil))))))) ev_nil))))))⟩
theorem ok_format_stock {f : Addr} {fd : FuncData} (G : T K mg c) (F : Fun K "format_stock" "format_stock" s_format_stock f fd) (h_stock_lines : Has P w K mg base 1 "stock_lines" ["stock"] (spD K (m_stock_lines c))) : FnOk P w K mg base (L2.CX P w) 2 f fd ["stock"] (spD K (m_format_stock c)) := by
  refine def_is (m := mm_format_stock c) F sc_format_stock rfl rfl fun cdv A outer s H E hr => ?_
  exact ⟨_, (pss_one (ps_ret (pe_bm PySem.F.plainAttrs_str PySem.F.slot_str_join PySem.F.type_str_join mt_join pe_str (pa_cons (pe_cal h_stock_lines hr rfl hxX (pa_cons (pv 0) pa_nil) (by decide)) pa_nil)))),
    (rn_ret (xr_B fun δ => (ev_mb hm_join ev_str (ev_cons (ev_call (ev_cons (ev_var 0) ev_nil)) ev_nil))))⟩
theorem ok__law_stock_asked {f : Addr} {fd : FuncData} (G : T K mg c) (F : Fun K "_law_stock_asked" "_law_stock_asked" s__law_stock_asked f fd) (h__law_read : Has P w K mg base 2 "_law_read" ["_law_note", "_law_most", "_law_count"] (spD K (m__law_read c))) (h__law_told : Has P w K mg base 10 "_law_told" ["_law_word", "_law_note", "_law_named"] (spD K (m__law_told c))) (h__law_alike : Has P w K mg base 6 "_law_alike" ["_law_told_here", "_law_due"] (spD K (m__law_alike c 4))) (h__law_is_stock : Has P w K mg base 8 "_law_is_stock" ["_law_read_here", "_law_size", "_law_stamps_here"] (spD K (m__law_is_stock c))) (h_format_stock : Has P w K mg base 2 "format_stock" ["stock"] (spD K (m_format_stock c))) : FnOk P w K mg base (L2.CX P w) 11 f fd ["_law_note", "_law_named"] (spD K (m__law_stock_asked c)) := by
  refine def_is (m := mm__law_stock_asked c) F sc__law_stock_asked rfl rfl fun cdv A outer s H E hr => ?_
  exact ⟨_, (pss_cons (ps_set (i := 2) sc__law_stock_asked.nd rfl (Or.inl rfl) (pe_cal h__law_read hr rfl hxX (pa_cons (pv 0) (pa_cons pe_int (pa_cons pe_int pa_nil))) (by decide))) (pss_cons (ps_set (i := 3) sc__law_stock_asked.nd rfl (Or.inl rfl) (pe_cal h__law_told hr rfl hxX (pa_cons pe_str (pa_cons (pv 0) (pa_cons (pv 1) pa_nil))) (by decide))) (pss_cons (ps_if (pt_cmpR op_notN (pe_ix ix_seq (pv 2) pe_int (fun _ _ => rfl)) pe_non (nomark _)) (pss_one (ps_ret (pe_and (pe_cmpR op_isN (pe_ix ix_seq (pv 3) pe_int (fun _ _ => rfl)) pe_non (nomark _)) (pe_and (pe_cmpR op_isB (pe_ix ix_seq (pv 3) pe_int (fun _ _ => rfl)) pe_bl (nomark _)) (pe_one (pe_cal h__law_alike hr rfl hxX (pa_cons (pe_ix ix_seq (pv 3) pe_int (fun _ _ => rfl)) (pa_cons (pe_ix ix_seq (pv 2) pe_int (fun _ _ => rfl)) pa_nil)) (by decide))))))) pss_nil) (pss_cons (ps_if (PW.pt (pw_or (pt_cmpR op_notN (pe_ix ix_seq (pv 3) pe_int (fun _ _ => rfl)) pe_non (nomark _)) (pw_or1 (pt_not (pt_val (pe_cal h__law_is_stock hr rfl hxX (pa_cons (pe_ix ix_seq (pv 3) pe_int (fun _ _ => rfl)) (pa_cons (pe_ix ix_seq (pv 2) pe_int (fun _ _ => rfl)) (pa_cons (pe_ix ix_seq (pv 2) pe_int (fun _ _ => rfl)) pa_nil))) (by decide))))))) (pss_one (ps_ret pe_bl)) pss_nil) (pss_one (ps_ret (pe_cal h__law_alike hr rfl hxX (pa_cons (pe_cal h_format_stock hr rfl hxX (pa_cons (pe_ix ix_seq (pv 3) pe_int (fun _ _ => rfl)) pa_nil) (by decide)) (pa_cons (pv 0) pa_nil)) (by decide)))))))),
    (rn_seq (rn_set (i := 2) (xp_B fun δ => (ev_call (ev_cons (ev_var 0) (ev_cons ev_int (ev_cons ev_int ev_nil)))))) (rn_seq (rn_set (i := 3) (xp_B fun δ => (ev_call (ev_cons ev_str (ev_cons (ev_var 0) (ev_cons (ev_var 1) ev_nil)))))) (rn_seq (rn_if (xt_B fun δ => (ev_test (ev_op ha_notN (ev_op ha_ix (ev_var 2) ev_int) ev_non))) (rn_ret (xr_B fun δ => (ev_andV (ev_op ha_isN (ev_op ha_ix (ev_var 3) ev_int) ev_non) (ev_andV (ev_op ha_isB (ev_op ha_ix (ev_var 3) ev_int) ev_bl) (ev_call (ev_cons (ev_op ha_ix (ev_var 3) ev_int) (ev_cons (ev_op ha_ix (ev_var 2) ev_int) ev_nil))))))) rn_nil) (rn_seq (rn_if (xt_B fun δ => (ev_or (ev_test (ev_op ha_notN (ev_op ha_ix (ev_var 3) ev_int) ev_non)) (ev_not (ev_tB (ev_call (ev_cons (ev_op ha_ix (ev_var 3) ev_int) (ev_cons (ev_op ha_ix (ev_var 2) ev_int) (ev_cons (ev_op ha_ix (ev_var 2) ev_int) ev_nil)))))))) (rn_ret (xr_B fun δ => ev_bl)) rn_nil) (rn_ret (xr_B fun δ => (ev_call (ev_cons (ev_call (ev_cons (ev_op ha_ix (ev_var 3) ev_int) ev_nil)) (ev_cons (ev_var 0) ev_nil)))))))))⟩
theorem ok_Box___len__ {f : Addr} {fd : FuncData} (G : T K mg c) (F : Fun K "__len__" "Box.__len__" s_Box___len__ f fd)  : FnOk P w K mg base (L2.CX P w) 1 f fd ["self"] (spD K (m_Box___len__ c)) := by
  refine def_is (m := mm_Box___len__ c) F sc_Box___len__ rfl rfl fun cdv A outer s H E hr => ?_
  exact ⟨_, (pss_one (ps_ret (pe_callB call_len (by rfl) G.b_len (by decide +kernel) (pa_cons (pe_fld (pv 0) rfl) pa_nil)))),
    (rn_ret (xr_B fun δ => (ev_cb hc_len (ev_cons (ev_fld G.cl_Box G.n_Box_pairs (ev_var 0)) ev_nil))))⟩
theorem ok_Box___eq__ {f : Addr} {fd : FuncData} (G : T K mg c) (F : Fun K "__eq__" "Box.__eq__" s_Box___eq__ f fd) (h_Stock___eq__ : HasM P w K mg base 1 c.Stock "__eq__" ["self", "other"] (spD K (m_Stock___eq__ c))) : FnOk P w K mg base (L2.CX P w) 2 f fd ["self", "other"] (spD K (m_Box___eq__ c)) := by
  refine def_is (m := mm_Box___eq__ c) F sc_Box___eq__ rfl rfl fun cdv A outer s H E hr => ?_
  exact ⟨_, (pss_one (ps_ret (pe_and (pe_callB call_isi (by rfl) G.b_isinstance (by decide +kernel) (pa_cons (pv 1) (pa_cons (pe_gl G.k_Box rfl) pa_nil))) (pe_and (pe_cmpR (op_eqI h_Stock___eq__ hr hxX) (pe_fld (pv 0) rfl) (pe_fld (pv 1) rfl) (nomark _)) (pe_one (pe_cmpR (op_eqP hr.units) (pe_fld (pv 0) rfl) (pe_fld (pv 1) rfl) (nomark _))))))),
    (rn_ret (xr_B fun δ => (ev_andV (ev_isi (.own c.Box) (isa_C G.o_Box) (ev_var 1)) (ev_andV (ev_eqI (ev_fld G.cl_Box G.n_Box_stock (ev_var 0)) (ev_fld G.cl_Box G.n_Box_stock (ev_var 1))) (ev_op ha_eq (ev_fld G.cl_Box G.n_Box_pairs (ev_var 0)) (ev_fld G.cl_Box G.n_Box_pairs (ev_var 1)))))))⟩
theorem ok_format_box {f : Addr} {fd : FuncData} (G : T K mg c) (F : Fun K "format_box" "format_box" s_format_box f fd) (h_stock_lines : Has P w K mg base 1 "stock_lines" ["stock"] (spD K (m_stock_lines c))) : FnOk P w K mg base (L2.CX P w) 2 f fd ["box"] (spD K (m_format_box c)) := by
  refine def_is (m := mm_format_box c) F sc_format_box rfl rfl fun cdv A outer s H E hr => ?_
  exact ⟨_, (pss_one (ps_ret (pe_bm PySem.F.plainAttrs_str PySem.F.slot_str_join PySem.F.type_str_join mt_join pe_str (pa_cons (pe_lst (StX.pa_star (pe_cal h_stock_lines hr rfl hxX (pa_cons (pe_fld (pv 0) rfl) pa_nil) (by decide)) (StX.pa_star (pe_lc (own := [("start", 1), ("seen", 2)]) (g := (gTup K 2 (gCons (gName 1) (gCons (gName 2) gNil)))) (tt := tYes) (te := (fun σ H Q => tJs [(tFmt (tC (.str "pair"))), (tC (.str " ")), (tFmt (tVar 1)), (tC (.str " ")), (tFmt (tVar 2))] Str.empty σ H fun out H1 => Q (.str out) H1)) rfl sc_format_box.nd (pi_any (pe_fld (pv 0) rfl)) (blkOk_by (N := ["box", "start", "seen"]) (sc := defScope s_format_box) (by decide +kernel)) (fun _ _ _ _ _ => (pg_tup (by rfl) (pgs_cons (pg_name (i := 1) sc_format_box.nd rfl (Or.inl rfl)) (pgs_cons (pg_name (i := 2) sc_format_box.nd rfl (Or.inl rfl)) pgs_nil)))) (fun _ _ _ _ _ => pts_nil) (fun _ _ _ _ _ => (pe_joined (PJ.cons (pe_fmt (pe_gl G.g_PAIR rfl)) (PJ.cons pe_str (PJ.cons (pe_fmt (pv 1)) (PJ.cons pe_str (PJ.cons (pe_fmt (pv 2)) PJ.nil)))))))) pa_nil))) pa_nil)))),
    (rn_ret (xr_B fun δ => (ev_mb hm_join ev_str (ev_cons (ev_new (ev_lst (P := P) (w := w) (ev_star (ev_call (ev_cons (ev_fld G.cl_Box G.n_Box_stock (ev_var 0)) ev_nil)) (ev_star (ev_new (ev_lc (P := P) (w := w) (vs := [1, 2]) (ev_any (ev_fld G.cl_Box G.n_Box_pairs (ev_var 0))) (ge_tup (ges_cons (ge_name 1) (ges_cons (ge_name 2) ges_nil))) ev_yes (fun δ => (ev_joined (EvJ.cons (ev_fmt ev_str) (EvJ.cons ev_str (EvJ.cons (ev_fmt (ev_var 1)) (EvJ.cons ev_str (EvJ.cons (ev_fmt (ev_var 2)) EvJ.nil))))))))) ev_nil)))) ev_nil))))⟩
theorem ok__law_asked {f : Addr} {fd : FuncData} (G : T K mg c) (F : Fun K "_law_asked" "_law_asked" s__law_asked f fd) (h__law_read : Has P w K mg base 2 "_law_read" ["_law_note", "_law_most", "_law_count"] (spD K (m__law_read c))) (h__law_told : Has P w K mg base 10 "_law_told" ["_law_word", "_law_note", "_law_named"] (spD K (m__law_told c))) (h__law_stock_asked : Has P w K mg base 11 "_law_stock_asked" ["_law_note", "_law_named"] (spD K (m__law_stock_asked c))) (h__law_alike : Has P w K mg base 6 "_law_alike" ["_law_told_here", "_law_due"] (spD K (m__law_alike c 4))) (h__law_is_stock : Has P w K mg base 8 "_law_is_stock" ["_law_read_here", "_law_size", "_law_stamps_here"] (spD K (m__law_is_stock c))) (h_Box___len__ : HasM P w K mg base 1 c.Box "__len__" ["self"] (spD K (m_Box___len__ c))) (h_Box___eq__ : HasM P w K mg base 2 c.Box "__eq__" ["self", "other"] (spD K (m_Box___eq__ c))) (h_Box___init__ : HasI P w K mg base 6 "Box" c.Box ["self", "stock", "pairs"] (spI K c.Box (m_Box___init__ c))) (h_Stock___init__ : HasI P w K mg base 6 "Stock" c.Stock ["self", "size", "stamps"] (spI K c.Stock (m_Stock___init__ c))) (h_format_box : Has P w K mg base 2 "format_box" ["box"] (spD K (m_format_box c))) : FnOk P w K mg base (L2.CX P w) 12 f fd ["_law_note", "_law_named"] (spD K (m__law_asked c)) := by
  refine def_is (m := mm__law_asked c) F sc__law_asked rfl rfl fun cdv A outer s H E hr => ?_
  exact ⟨_, (pss_cons (ps_set (i := 2) sc__law_asked.nd rfl (Or.inl rfl) (pe_cal h__law_read hr rfl hxX (pa_cons (pv 0) (pa_cons pe_int (pa_cons pe_int pa_nil))) (by decide))) (pss_cons (ps_set (i := 3) sc__law_asked.nd rfl (Or.inl rfl) (pe_cal h__law_told hr rfl hxX (pa_cons pe_str (pa_cons (pv 0) (pa_cons (pe_not (pv 1)) pa_nil))) (by decide))) (pss_cons (ps_if (pt_not (pt_val (pe_cal h__law_stock_asked hr rfl hxX (pa_cons (pv 0) (pa_cons (pv 1) pa_nil)) (by decide)))) (pss_one (ps_ret pe_bl)) pss_nil) (pss_cons (ps_if (pt_cmpR op_notN (pe_ix ix_seq (pv 2) pe_int (fun _ _ => rfl)) pe_non (nomark _)) (pss_one (ps_ret (pe_and (pe_cmpR op_isN (pe_ix ix_seq (pv 3) pe_int (fun _ _ => rfl)) pe_non (nomark _)) (pe_and (pe_cmpR op_isB (pe_ix ix_seq (pv 3) pe_int (fun _ _ => rfl)) pe_bl (nomark _)) (pe_one (pe_cal h__law_alike hr rfl hxX (pa_cons (pe_ix ix_seq (pv 3) pe_int (fun _ _ => rfl)) (pa_cons (pe_ix ix_seq (pv 2) pe_int (fun _ _ => rfl)) pa_nil)) (by decide))))))) pss_nil) (pss_cons (ps_set (i := 4) sc__law_asked.nd rfl (Or.inl rfl) (pe_ix ix_seq (pv 3) pe_int (fun _ _ => rfl))) (pss_cons (ps_if (PW.pt (pw_or (pt_cmpR op_notN (pe_ix ix_seq (pv 3) pe_int (fun _ _ => rfl)) pe_non (nomark _)) (pw_or (pt_not (pt_val (pe_callB call_isi (by rfl) G.b_isinstance (by decide +kernel) (pa_cons (pv 4) (pa_cons (pe_gl G.k_Box rfl) pa_nil))))) (pw_or1 (pt_not (pt_val (pe_cal h__law_is_stock hr rfl hxX (pa_cons (pe_fld (pv 4) rfl) (pa_cons (pe_ix ix_seq (pv 2) pe_int (fun _ _ => rfl)) (pa_cons (pe_ix ix_seq (pv 2) pe_int (fun _ _ => rfl)) pa_nil))) (by decide)))))))) (pss_one (ps_ret pe_bl)) pss_nil) (pss_cons (ps_if (PW.pt (pw_or (pt_not (pt_val (pe_cal h__law_alike hr rfl hxX (pa_cons (pe_fld (pv 4) rfl) (pa_cons (pe_callTy call_tuple_of (by rfl) G.b_tuple (by decide +kernel) (pa_cons (pe_ix ix_seq (pv 2) pe_int (fun _ _ => rfl)) pa_nil)) pa_nil)) (by decide)))) (pw_or1 (pt_not (pt_val (pe_cal h__law_alike hr rfl hxX (pa_cons (pe_callB (call_lenI h_Box___len__ hr hxX (by decide)) (by rfl) G.b_len (by decide +kernel) (pa_cons (pv 4) pa_nil)) (pa_cons (pe_callB call_len (by rfl) G.b_len (by decide +kernel) (pa_cons (pe_ix ix_seq (pv 2) pe_int (fun _ _ => rfl)) pa_nil)) pa_nil)) (by decide))))))) (pss_one (ps_ret pe_bl)) pss_nil) (pss_one (ps_ret (pe_and (pe_cmpR (op_eqI h_Box___eq__ hr hxX) (pv 4) (pe_mak h_Box___init__ hr rfl hxX (pa_cons (pe_mak h_Stock___init__ hr rfl hxX (pa_cons (pe_ix ix_seq (pv 2) pe_int (fun _ _ => rfl)) (pa_cons (pe_ix ix_seq (pv 2) pe_int (fun _ _ => rfl)) pa_nil)) (by decide)) (pa_cons (pe_ix ix_seq (pv 2) pe_int (fun _ _ => rfl)) pa_nil)) (by decide)) (nomark _)) (pe_one (pe_cal h__law_alike hr rfl hxX (pa_cons (pe_cal h_format_box hr rfl hxX (pa_cons (pv 4) pa_nil) (by decide)) (pa_cons (pv 0) pa_nil)) (by decide))))))))))))),
    (rn_seq (rn_set (i := 2) (xp_B fun δ => (ev_call (ev_cons (ev_var 0) (ev_cons ev_int (ev_cons ev_int ev_nil)))))) (rn_seq (rn_set (i := 3) (xp_B fun δ => (ev_call (ev_cons ev_str (ev_cons (ev_var 0) (ev_cons (ev_notV (ev_var 1)) ev_nil)))))) (rn_seq (rn_if (xt_B fun δ => (ev_not (ev_tB (ev_call (ev_cons (ev_var 0) (ev_cons (ev_var 1) ev_nil)))))) (rn_ret (xr_B fun δ => ev_bl)) rn_nil) (rn_seq (rn_if (xt_B fun δ => (ev_test (ev_op ha_notN (ev_op ha_ix (ev_var 2) ev_int) ev_non))) (rn_ret (xr_B fun δ => (ev_andV (ev_op ha_isN (ev_op ha_ix (ev_var 3) ev_int) ev_non) (ev_andV (ev_op ha_isB (ev_op ha_ix (ev_var 3) ev_int) ev_bl) (ev_call (ev_cons (ev_op ha_ix (ev_var 3) ev_int) (ev_cons (ev_op ha_ix (ev_var 2) ev_int) ev_nil))))))) rn_nil) (rn_seq (rn_set (i := 4) (xp_B fun δ => (ev_op ha_ix (ev_var 3) ev_int))) (rn_seq (rn_if (xt_B fun δ => (ev_or (ev_test (ev_op ha_notN (ev_op ha_ix (ev_var 3) ev_int) ev_non)) (ev_or (ev_not (ev_tB (ev_isi (.own c.Box) (isa_C G.o_Box) (ev_var 4)))) (ev_not (ev_tB (ev_call (ev_cons (ev_fld G.cl_Box G.n_Box_stock (ev_var 4)) (ev_cons (ev_op ha_ix (ev_var 2) ev_int) (ev_cons (ev_op ha_ix (ev_var 2) ev_int) ev_nil))))))))) (rn_ret (xr_B fun δ => ev_bl)) rn_nil) (rn_seq (rn_if (xt_B fun δ => (ev_or (ev_not (ev_tB (ev_call (ev_cons (ev_fld G.cl_Box G.n_Box_pairs (ev_var 4)) (ev_cons (ev_cb hc_tuple (ev_cons (ev_op ha_ix (ev_var 2) ev_int) ev_nil)) ev_nil))))) (ev_not (ev_tB (ev_call (ev_cons (ev_lenI (ev_cons (ev_var 4) ev_nil)) (ev_cons (ev_cb hc_len (ev_cons (ev_op ha_ix (ev_var 2) ev_int) ev_nil)) ev_nil))))))) (rn_ret (xr_B fun δ => ev_bl)) rn_nil) (rn_ret (xr_B fun δ => (ev_andV (ev_eqI (ev_var 4) (ev_make (ev_cons (ev_make (ev_cons (ev_op ha_ix (ev_var 2) ev_int) (ev_cons (ev_op ha_ix (ev_var 2) ev_int) ev_nil))) (ev_cons (ev_op ha_ix (ev_var 2) ev_int) ev_nil)))) (ev_call (ev_cons (ev_call (ev_cons (ev_var 4) ev_nil)) (ev_cons (ev_var 0) ev_nil)))))))))))))⟩
theorem ok__law_fresh {f : Addr} {fd : FuncData} (G : T K mg c) (F : Fun K "_law_fresh" "_law_fresh" s__law_fresh f fd)  : FnOk P w K mg base (L2.CX P w) 1 f fd ["_law_name_here", "_law_taken"] (spD K (m__law_fresh c)) := by
  refine def_is (m := mm__law_fresh c) F sc__law_fresh rfl rfl fun cdv A outer s H E hr => ?_
  exact ⟨_, (pss_cons (ps_if (pt_cmpR op_notInA (pv 0) (pv 1) (by rfl)) (pss_one (ps_ret (pv 0))) pss_nil) (pss_cons (ps_for poX rfl (pi_range1 rfl G.b_range (pa_cons pe_int pa_nil)) (pg_name (i := 2) sc__law_fresh.nd rfl (Or.inl rfl)) (pss_one (ps_if (pt_cmpR op_notInA (pe_op op_addD pe_str (pe_callTy call_str_int (by rfl) G.b_str (by decide +kernel) (pa_cons (pv 2) pa_nil))) (pv 1) (by rfl)) (pss_one (ps_ret (pe_op op_addD pe_str (pe_callTy call_str_int (by rfl) G.b_str (by decide +kernel) (pa_cons (pv 2) pa_nil))))) pss_nil))) (pss_one (ps_ret (pv 0))))),
    (rn_seq (rn_if (xt_B fun δ => (ev_test (ev_op ha_notIn (ev_var 0) (ev_var 1)))) (rn_ret (xr_B fun δ => (ev_var 0))) rn_nil) (rn_seq (rn_for (fun δ => (ev_rng1 (ev_cons ev_int ev_nil))) (gt_name 2) (rn_if (xt_B fun δ => (ev_test (ev_op ha_notIn (ev_op ha_add ev_str (ev_cb hc_str (ev_cons (ev_var 2) ev_nil))) (ev_var 1)))) (rn_ret (xr_B fun δ => (ev_op ha_add ev_str (ev_cb hc_str (ev_cons (ev_var 2) ev_nil))))) rn_nil)) (rn_ret (xr_B fun δ => (ev_var 0)))))⟩
theorem ok__law_full {f : Addr} {fd : FuncData} (G : T K mg c) (F : Fun K "_law_full" "_law_full" s__law_full f fd) (h__law_fresh : Has P w K mg base 1 "_law_fresh" ["_law_name_here", "_law_taken"] (spD K (m__law_fresh c))) : FnOk P w K mg base (L2.CX P w) 2 f fd ["_law_size", "_law_stamps_here", "_law_many"] (spD K (m__law_full c)) := by
  refine def_is (m := mm__law_full c) F sc__law_full rfl rfl fun cdv A outer s H E hr => ?_
  exact ⟨_, (pss_cons (ps_set (i := 3) sc__law_full.nd rfl (Or.inl rfl) (pe_op op_addD (pe_lst (pa_cons (pe_op op_addD pe_str (pe_callTy call_str_int (by rfl) G.b_str (by decide +kernel) (pa_cons (pv 0) pa_nil))) pa_nil)) (pe_lc (own := [("_law_stamp", 7)]) (g := (gName 7)) (tt := tYes) (te := (tOp (rAdd4 K) (tOp (rAdd4 K) (tOp (rIx K) (tVar 7) (tC (.int 0))) (tC (.str " "))) (tOp (rIx K) (tVar 7) (tC (.int 1))))) rfl sc__law_full.nd (pi_any (pv 1)) (blkOk_by (N := ["_law_size", "_law_stamps_here", "_law_many", "_law_lines", "_law_taken", "_law_k", "_law_name_here", "_law_stamp"]) (sc := defScope s__law_full) (by decide +kernel)) (fun _ _ _ _ _ => (pg_name (i := 7) sc__law_full.nd rfl (Or.inl rfl))) (fun _ _ _ _ _ => pts_nil) (fun _ _ _ _ _ => (pe_op op_addD (pe_op op_addD (pe_ix ix_seq (pv 7) pe_int (fun _ _ => rfl)) pe_str) (pe_ix ix_seq (pv 7) pe_int (fun _ _ => rfl))))))) (pss_cons (ps_setLc (i := 4) (own := [("_law_stamp", 7)]) (g := (gName 7)) (tt := tYes) (te := (tOp (rIx K) (tVar 7) (tC (.int 0)))) rfl sc__law_full.nd rfl rfl (sw_true rfl rfl rfl (by decide +kernel)) (pi_any (pv 1)) (blkOk_by (N := ["_law_size", "_law_stamps_here", "_law_many", "_law_lines", "_law_taken", "_law_k", "_law_name_here", "_law_stamp"]) (sc := defScope s__law_full) (by decide +kernel)) (fun _ _ _ _ _ => (pg_name (i := 7) sc__law_full.nd rfl (Or.inl rfl))) (fun _ _ _ _ _ => pts_nil) (fun _ _ _ _ _ => (pe_ix ix_seq (pv 7) pe_int (fun _ _ => rfl)))) (pss_cons (ps_for poX rfl (pi_range1 rfl G.b_range (pa_cons (pe_op op_sub (pv 2) (pe_callB call_len (by rfl) G.b_len (by decide +kernel) (pa_cons (pv 1) pa_nil))) pa_nil)) (pg_name (i := 5) sc__law_full.nd rfl (Or.inl rfl)) (pss_cons (ps_set (i := 6) sc__law_full.nd rfl (Or.inl rfl) (pe_cal h__law_fresh hr rfl hxX (pa_cons (pe_op op_addD pe_str (pe_callTy call_str_int (by rfl) G.b_str (by decide +kernel) (pa_cons (pv 5) pa_nil))) (pa_cons (pv 4) pa_nil)) (by decide))) (pss_cons (ps_expr (pe_bm PySem.F.plainAttrs_list PySem.F.slot_list_append PySem.F.type_list_append mt_append (pv 4) (pa_cons (pv 6) pa_nil))) (pss_one (ps_expr (pe_bm PySem.F.plainAttrs_list PySem.F.slot_list_append PySem.F.type_list_append mt_append (pv 3) (pa_cons (pe_op op_addD (pe_op op_addD (pe_op op_addD (pv 6) pe_str) (pe_op op_mulD pe_str (pe_op op_sub (pv 0) pe_int))) pe_str) pa_nil))))))) (pss_one (ps_ret (pv 3)))))),
    (rn_seq (rn_new (i := 3) fun δ => (ev_addN (P := P) (w := w) (ev_new (ev_lst (P := P) (w := w) (ev_cons (ev_op ha_add ev_str (ev_cb hc_str (ev_cons (ev_var 0) ev_nil))) ev_nil))) (ev_new (ev_lc (P := P) (w := w) (vs := [7]) (ev_any (ev_var 1)) (ge_name 7) ev_yes (fun δ => (ev_op ha_add (ev_op ha_add (ev_op ha_ix (ev_var 7) ev_int) ev_str) (ev_op ha_ix (ev_var 7) ev_int))))))) (rn_seq (rn_new (i := 4) fun δ => (ev_lc (P := P) (w := w) (vs := [7]) (ev_any (ev_var 1)) (ge_name 7) ev_yes (fun δ => (ev_op ha_ix (ev_var 7) ev_int)))) (rn_seq (rn_for (fun δ => (ev_rng1 (ev_cons (ev_op ha_sub (ev_var 2) (ev_cb hc_len (ev_cons (ev_var 1) ev_nil))) ev_nil))) (gt_name 5) (rn_seq (rn_set (i := 6) (xp_V fun δ => (ev_call (ev_cons (ev_op ha_add ev_str (ev_cb hc_str (ev_cons (ev_var 5) ev_nil))) (ev_cons (ev_var 4) ev_nil))))) (rn_seq (rn_app (xp_C 4) (xp_B fun δ => (ev_var 6))) (rn_app (xp_C 3) (xp_B fun δ => (ev_op ha_add (ev_op ha_add (ev_op ha_add (ev_var 6) ev_str) (ev_op ha_mul ev_str (ev_op ha_sub (ev_var 0) ev_int))) ev_str)))))) (rn_frz 3 (rn_frz 4 (rn_ret (xr_B fun δ => (ev_var 3))))))))⟩
theorem ok__law_notes {f : Addr} {fd : FuncData} (G : T K mg c) (F : Fun K "_law_notes" "_law_notes" s__law_notes f fd) (h__law_full : Has P w K mg base 2 "_law_full" ["_law_size", "_law_stamps_here", "_law_many"] (spD K (m__law_full c))) : FnOk P w K mg base (L2.CX P w) 3 f fd ["_law_size", "_law_stamps_here", "_law_pairs", "_law_digits_here"] (spD K (m__law_notes c)) := by
  refine def_is (m := mm__law_notes c) F sc__law_notes rfl rfl fun cdv A outer s H E hr => ?_
  exact ⟨_, (pss_cons (ps_set (i := 4) sc__law_notes.nd rfl (Or.inl rfl) (pe_cal h__law_full hr rfl hxX (pa_cons (pv 0) (pa_cons (pv 1) (pa_cons pe_int pa_nil))) (by decide))) (pss_cons (ps_set (i := 5) sc__law_notes.nd rfl (Or.inl rfl) (pe_op op_addD (pe_cal h__law_full hr rfl hxX (pa_cons (pv 0) (pa_cons (pe_slice sl_any (pv 1) po_none (po_some pe_int)) (pa_cons pe_int pa_nil))) (by decide)) (pe_lc (own := [("_law_pair", 9)]) (g := (gName 9)) (tt := tYes) (te := (tOp (rAdd4 K) (tOp (rAdd4 K) (tOp (rAdd4 K) (tC (.str "pair ")) (tOp (rIx K) (tVar 9) (tC (.int 0)))) (tC (.str " "))) (tOp (rIx K) (tVar 9) (tC (.int 1))))) rfl sc__law_notes.nd (pi_any (pv 2)) (blkOk_by (N := ["_law_size", "_law_stamps_here", "_law_pairs", "_law_digits_here", "_law_first", "_law_second", "_law_told_here", "_law_full_here", "_law_many", "_law_pair", "_law_k"]) (sc := defScope s__law_notes) (by decide +kernel)) (fun _ _ _ _ _ => (pg_name (i := 9) sc__law_notes.nd rfl (Or.inl rfl))) (fun _ _ _ _ _ => pts_nil) (fun _ _ _ _ _ => (pe_op op_addD (pe_op op_addD (pe_op op_addD pe_str (pe_ix ix_seq (pv 9) pe_int (fun _ _ => rfl))) pe_str) (pe_ix ix_seq (pv 9) pe_int (fun _ _ => rfl))))))) (pss_cons (ps_set (i := 6) sc__law_notes.nd rfl (Or.inr rfl) (pe_op op_addD (pe_lc (own := [("_law_pair", 9)]) (g := (gName 9)) (tt := tYes) (te := (tOp (rAdd4 K) (tOp (rAdd4 K) (tOp (rAdd4 K) (tC (.str "pair ")) (tOp (rIx K) (tVar 9) (tC (.int 0)))) (tC (.str " "))) (tOp (rIx K) (tVar 9) (tC (.int 1))))) rfl sc__law_notes.nd (pi_any (pv 2)) (blkOk_by (N := ["_law_size", "_law_stamps_here", "_law_pairs", "_law_digits_here", "_law_first", "_law_second", "_law_told_here", "_law_full_here", "_law_many", "_law_pair", "_law_k"]) (sc := defScope s__law_notes) (by decide +kernel)) (fun _ _ _ _ _ => (pg_name (i := 9) sc__law_notes.nd rfl (Or.inl rfl))) (fun _ _ _ _ _ => pts_nil) (fun _ _ _ _ _ => (pe_op op_addD (pe_op op_addD (pe_op op_addD pe_str (pe_ix ix_seq (pv 9) pe_int (fun _ _ => rfl))) pe_str) (pe_ix ix_seq (pv 9) pe_int (fun _ _ => rfl))))) (pe_lst (pa_cons (pe_op op_addD (pe_op op_addD (pe_op op_addD pe_str (pe_op op_mulD pe_str (pv 0))) pe_str) (pe_op op_mulD pe_str (pv 0))) pa_nil)))) (pss_cons (ps_set (i := 7) sc__law_notes.nd rfl (Or.inl rfl) (pe_op op_addD (pe_cal h__law_full hr rfl hxX (pa_cons (pv 0) (pa_cons (pe_slice sl_any (pv 1) po_none (po_some pe_int)) (pa_cons (pe_op op_addD pe_int (pe_callTy call_intD (by rfl) G.b_int (by decide +kernel) (pa_cons (pe_cmpR (op_eqP hr.units) (pe_ix ix_seq (pv 3) pe_int (fun _ _ => rfl)) pe_int (nomark _)) pa_nil))) pa_nil))) (by decide)) (pe_lc (own := [("_law_k", 10)]) (g := (gName 10)) (tt := tYes) (te := (tOp (rIx K) (tVar 6) (tOp (rI (fun _ j => 0 < j) fun i j => .int (i % j)) (tVar 10) (tCB (rLenA K) (tCons (tVar 6) tNil))))) rfl sc__law_notes.nd (pi_range1 rfl G.b_range (pa_cons (pe_op op_addD pe_int (pe_ix ix_seq (pv 3) pe_int (fun _ _ => rfl))) pa_nil)) (blkOk_by (N := ["_law_size", "_law_stamps_here", "_law_pairs", "_law_digits_here", "_law_first", "_law_second", "_law_told_here", "_law_full_here", "_law_many", "_law_pair", "_law_k"]) (sc := defScope s__law_notes) (by decide +kernel)) (fun _ _ _ _ _ => (pg_name (i := 10) sc__law_notes.nd rfl (Or.inl rfl))) (fun _ _ _ _ _ => pts_nil) (fun _ _ _ _ _ => (pe_ix ix_seq (pv 6) (pe_op op_mod (pv 10) (pe_callB call_len (by rfl) G.b_len (by decide +kernel) (pa_cons (pv 6) pa_nil))) (fun _ _ => rfl)))))) (pss_cons (ps_set (i := 8) sc__law_notes.nd rfl (Or.inl rfl) (pe_cal h__law_full hr rfl hxX (pa_cons (pv 0) (pa_cons (pv 1) (pa_cons (pe_op op_addD pe_int (pe_ix ix_seq (pv 3) pe_int (fun _ _ => rfl))) pa_nil))) (by decide))) (pss_one (ps_ret (pe_lst (pa_cons (pe_lst (pa_cons (pe_bm PySem.F.plainAttrs_str PySem.F.slot_str_join PySem.F.type_str_join mt_join pe_str (pa_cons (pv 4) pa_nil)) (pa_cons (pe_bm PySem.F.plainAttrs_str PySem.F.slot_str_join PySem.F.type_str_join mt_join pe_str (pa_cons (pv 5) pa_nil)) pa_nil))) (pa_cons (pe_lst (pa_cons (pe_bm PySem.F.plainAttrs_str PySem.F.slot_str_join PySem.F.type_str_join mt_join pe_str (pa_cons (pv 8) pa_nil)) (pa_cons (pe_bm PySem.F.plainAttrs_str PySem.F.slot_str_join PySem.F.type_str_join mt_join pe_str (pa_cons (pv 7) pa_nil)) pa_nil))) pa_nil)))))))))),
    (rn_seq (rn_set (i := 4) (xp_B fun δ => (ev_call (ev_cons (ev_var 0) (ev_cons (ev_var 1) (ev_cons ev_int ev_nil)))))) (rn_seq (rn_set (i := 5) (xp_B fun δ => (ev_op ha_add (ev_call (ev_cons (ev_var 0) (ev_cons (ev_sl (ev_var 1) ev_noPart (ev_part ev_int)) (ev_cons ev_int ev_nil)))) (ev_new (ev_lc (P := P) (w := w) (vs := [9]) (ev_any (ev_var 2)) (ge_name 9) ev_yes (fun δ => (ev_op ha_add (ev_op ha_add (ev_op ha_add ev_str (ev_op ha_ix (ev_var 9) ev_int)) ev_str) (ev_op ha_ix (ev_var 9) ev_int)))))))) (rn_seq (rn_set (i := 6) (xp_B fun δ => (ev_op ha_add (ev_new (ev_lc (P := P) (w := w) (vs := [9]) (ev_any (ev_var 2)) (ge_name 9) ev_yes (fun δ => (ev_op ha_add (ev_op ha_add (ev_op ha_add ev_str (ev_op ha_ix (ev_var 9) ev_int)) ev_str) (ev_op ha_ix (ev_var 9) ev_int))))) (ev_new (ev_lst (P := P) (w := w) (ev_cons (ev_op ha_add (ev_op ha_add (ev_op ha_add ev_str (ev_op ha_mul ev_str (ev_var 0))) ev_str) (ev_op ha_mul ev_str (ev_var 0))) ev_nil)))))) (rn_seq (rn_set (i := 7) (xp_B fun δ => (ev_op ha_add (ev_call (ev_cons (ev_var 0) (ev_cons (ev_sl (ev_var 1) ev_noPart (ev_part ev_int)) (ev_cons (ev_op ha_add ev_int (ev_cb hc_int (ev_cons (ev_op ha_eq (ev_op ha_ix (ev_var 3) ev_int) ev_int) ev_nil))) ev_nil)))) (ev_new (ev_lc (P := P) (w := w) (vs := [10]) (ev_rng1 (ev_cons (ev_op ha_add ev_int (ev_op ha_ix (ev_var 3) ev_int)) ev_nil)) (ge_name 10) ev_yes (fun δ => (ev_op ha_ix (ev_var 6) (ev_op ha_mod (ev_var 10) (ev_cb hc_len (ev_cons (ev_var 6) ev_nil)))))))))) (rn_seq (rn_set (i := 8) (xp_B fun δ => (ev_call (ev_cons (ev_var 0) (ev_cons (ev_var 1) (ev_cons (ev_op ha_add ev_int (ev_op ha_ix (ev_var 3) ev_int)) ev_nil)))))) (rn_ret (xr_B fun δ => (ev_new (ev_lst (P := P) (w := w) (ev_cons (ev_new (ev_lst (P := P) (w := w) (ev_cons (ev_mb hm_join ev_str (ev_cons (ev_var 4) ev_nil)) (ev_cons (ev_mb hm_join ev_str (ev_cons (ev_var 5) ev_nil)) ev_nil)))) (ev_cons (ev_new (ev_lst (P := P) (w := w) (ev_cons (ev_mb hm_join ev_str (ev_cons (ev_var 8) ev_nil)) (ev_cons (ev_mb hm_join ev_str (ev_cons (ev_var 7) ev_nil)) ev_nil)))) ev_nil)))))))))))⟩
theorem ok__law_further {f : Addr} {fd : FuncData} (G : T K mg c) (F : Fun K "_law_further" "_law_further" s__law_further f fd) (h__law_fresh : Has P w K mg base 1 "_law_fresh" ["_law_name_here", "_law_taken"] (spD K (m__law_fresh c))) : FnOk P w K mg base (L2.CX P w) 2 f fd ["_law_size", "_law_taken"] (spD K (m__law_further c)) := by
  refine def_is (m := mm__law_further c) F sc__law_further rfl rfl fun cdv A outer s H E hr => ?_
  exact ⟨_, (pss_cons (ps_set (i := 2) sc__law_further.nd rfl (Or.inl rfl) (pe_cal h__law_fresh hr rfl hxX (pa_cons pe_str (pa_cons (pv 1) pa_nil)) (by decide))) (pss_cons (ps_set (i := 3) sc__law_further.nd rfl (Or.inl rfl) (pe_op op_mulD pe_str (pv 0))) (pss_cons (ps_set (i := 4) sc__law_further.nd rfl (Or.inl rfl) (pe_lst (pa_cons (pe_op op_addD (pe_op op_addD (pv 2) pe_str) (pv 3)) (pa_cons (pe_op op_addD (pe_op op_addD (pv 2) pe_str) (pe_op op_mulD pe_str (pv 0))) (pa_cons (pe_op op_addD (pe_op op_addD (pe_op op_addD (pv 2) pe_str) (pv 3)) pe_str) (pa_cons (pe_op op_addD (pe_op op_addD (pv 2) pe_str) (pe_slice sl_any (pv 3) (po_some pe_int) po_none)) (pa_cons (pv 2) (pa_cons pe_str pa_nil)))))))) (pss_cons (ps_set (i := 4) sc__law_further.nd rfl (Or.inl rfl) (pe_op op_addD (pv 4) (pe_lst (pa_cons (pe_op op_addD (pe_op op_addD (pv 2) pe_str) (pv 3)) (pa_cons (pe_op op_addD (pe_op op_addD (pe_bm0 PySem.F.plainAttrs_str PySem.F.slot_str_upper PySem.F.type_str_upper mt_upper (pv 2)) pe_str) (pv 3)) (pa_cons (pe_op op_addD (pe_op op_addD (pe_op op_addD pe_str (pv 2)) pe_str) (pv 3)) (pa_cons (pe_op op_addD (pe_op op_addD (pe_op op_addD (pe_op op_addD (pv 2) pe_str) (pv 3)) pe_str) (pv 3)) pa_nil))))))) (pss_cons (ps_set (i := 4) sc__law_further.nd rfl (Or.inl rfl) (pe_op op_addD (pv 4) (pe_lst (pa_cons (pe_op op_addD (pe_op op_addD (pe_op op_addD pe_str (pv 3)) pe_str) (pv 3)) (pa_cons (pe_op op_addD pe_str (pv 3)) (pa_cons (pe_op op_addD pe_str (pv 3)) (pa_cons (pe_op op_addD (pe_op op_addD (pe_op op_addD (pe_op op_addD pe_str (pv 3)) pe_str) (pv 3)) pe_str) pa_nil))))))) (pss_one (ps_ret (pe_op op_addD (pv 4) (pe_lst (pa_cons (pe_op op_addD (pe_op op_addD (pe_op op_addD pe_str (pv 3)) pe_str) (pv 3)) (pa_cons (pe_op op_addD (pe_op op_addD (pe_op op_addD pe_str (pe_op op_mulD pe_str (pv 0))) pe_str) (pv 3)) pa_nil))))))))))),
    (rn_seq (rn_set (i := 2) (xp_B fun δ => (ev_call (ev_cons ev_str (ev_cons (ev_var 1) ev_nil))))) (rn_seq (rn_set (i := 3) (xp_B fun δ => (ev_op ha_mul ev_str (ev_var 0)))) (rn_seq (rn_set (i := 4) (xp_B fun δ => (ev_new (ev_lst (P := P) (w := w) (ev_cons (ev_op ha_add (ev_op ha_add (ev_var 2) ev_str) (ev_var 3)) (ev_cons (ev_op ha_add (ev_op ha_add (ev_var 2) ev_str) (ev_op ha_mul ev_str (ev_var 0))) (ev_cons (ev_op ha_add (ev_op ha_add (ev_op ha_add (ev_var 2) ev_str) (ev_var 3)) ev_str) (ev_cons (ev_op ha_add (ev_op ha_add (ev_var 2) ev_str) (ev_sl (ev_var 3) (ev_part ev_int) ev_noPart)) (ev_cons (ev_var 2) (ev_cons ev_str ev_nil)))))))))) (rn_seq (rn_set (i := 4) (xp_B fun δ => (ev_op ha_add (ev_var 4) (ev_new (ev_lst (P := P) (w := w) (ev_cons (ev_op ha_add (ev_op ha_add (ev_var 2) ev_str) (ev_var 3)) (ev_cons (ev_op ha_add (ev_op ha_add (ev_mb0 hm_upper (ev_var 2)) ev_str) (ev_var 3)) (ev_cons (ev_op ha_add (ev_op ha_add (ev_op ha_add ev_str (ev_var 2)) ev_str) (ev_var 3)) (ev_cons (ev_op ha_add (ev_op ha_add (ev_op ha_add (ev_op ha_add (ev_var 2) ev_str) (ev_var 3)) ev_str) (ev_var 3)) ev_nil))))))))) (rn_seq (rn_set (i := 4) (xp_B fun δ => (ev_op ha_add (ev_var 4) (ev_new (ev_lst (P := P) (w := w) (ev_cons (ev_op ha_add (ev_op ha_add (ev_op ha_add ev_str (ev_var 3)) ev_str) (ev_var 3)) (ev_cons (ev_op ha_add ev_str (ev_var 3)) (ev_cons (ev_op ha_add ev_str (ev_var 3)) (ev_cons (ev_op ha_add (ev_op ha_add (ev_op ha_add (ev_op ha_add ev_str (ev_var 3)) ev_str) (ev_var 3)) ev_str) ev_nil))))))))) (rn_ret (xr_B fun δ => (ev_op ha_add (ev_var 4) (ev_new (ev_lst (P := P) (w := w) (ev_cons (ev_op ha_add (ev_op ha_add (ev_op ha_add ev_str (ev_var 3)) ev_str) (ev_var 3)) (ev_cons (ev_op ha_add (ev_op ha_add (ev_op ha_add ev_str (ev_op ha_mul ev_str (ev_var 0))) ev_str) (ev_var 3)) ev_nil))))))))))))⟩
theorem ok__law_firsts {f : Addr} {fd : FuncData} (G : T K mg c) (F : Fun K "_law_firsts" "_law_firsts" s__law_firsts f fd)  : FnOk P w K mg base (L2.CX P w) 1 f fd ["_law_size"] (spD K (m__law_firsts c)) := by
  refine def_is (m := mm__law_firsts c) F sc__law_firsts rfl rfl fun cdv A outer s H E hr => ?_
  exact ⟨_, (pss_cons (ps_set (i := 1) sc__law_firsts.nd rfl (Or.inl rfl) (pe_lst (pa_cons pe_str (pa_cons pe_str (pa_cons pe_str (pa_cons pe_str (pa_cons pe_str (pa_cons pe_str (pa_cons pe_str (pa_cons pe_str (pa_cons pe_str pa_nil))))))))))) (pss_cons (ps_set (i := 1) sc__law_firsts.nd rfl (Or.inl rfl) (pe_op op_addD (pv 1) (pe_lst (pa_cons pe_str (pa_cons pe_str (pa_cons pe_str (pa_cons (pe_op op_addD pe_str (pe_op op_mulD pe_str pe_int)) (pa_cons pe_str (pa_cons pe_str (pa_cons pe_str pa_nil)))))))))) (pss_cons (ps_set (i := 1) sc__law_firsts.nd rfl (Or.inl rfl) (pe_op op_addD (pv 1) (pe_lst (pa_cons pe_str (pa_cons pe_str (pa_cons (pe_op op_addD (pe_op op_addD pe_str (pe_callTy call_str_int (by rfl) G.b_str (by decide +kernel) (pa_cons (pv 0) pa_nil))) pe_str) (pa_cons (pe_op op_addD pe_str (pe_callTy call_str_int (by rfl) G.b_str (by decide +kernel) (pa_cons (pv 0) pa_nil))) pa_nil))))))) (pss_one (ps_ret (pe_op op_addD (pv 1) (pe_lst (pa_cons (pe_op op_addD (pe_op op_addD (pe_op op_addD pe_str (pe_op op_mulD pe_str (pv 0))) pe_str) (pe_op op_mulD pe_str (pv 0))) pa_nil)))))))),
    (rn_seq (rn_set (i := 1) (xp_B fun δ => (ev_new (ev_lst (P := P) (w := w) (ev_cons ev_str (ev_cons ev_str (ev_cons ev_str (ev_cons ev_str (ev_cons ev_str (ev_cons ev_str (ev_cons ev_str (ev_cons ev_str (ev_cons ev_str ev_nil))))))))))))) (rn_seq (rn_set (i := 1) (xp_B fun δ => (ev_op ha_add (ev_var 1) (ev_new (ev_lst (P := P) (w := w) (ev_cons ev_str (ev_cons ev_str (ev_cons ev_str (ev_cons (ev_op ha_add ev_str (ev_op ha_mul ev_str ev_int)) (ev_cons ev_str (ev_cons ev_str (ev_cons ev_str ev_nil)))))))))))) (rn_seq (rn_set (i := 1) (xp_B fun δ => (ev_op ha_add (ev_var 1) (ev_new (ev_lst (P := P) (w := w) (ev_cons ev_str (ev_cons ev_str (ev_cons (ev_op ha_add (ev_op ha_add ev_str (ev_cb hc_str (ev_cons (ev_var 0) ev_nil))) ev_str) (ev_cons (ev_op ha_add ev_str (ev_cb hc_str (ev_cons (ev_var 0) ev_nil))) ev_nil))))))))) (rn_ret (xr_B fun δ => (ev_op ha_add (ev_var 1) (ev_new (ev_lst (P := P) (w := w) (ev_cons (ev_op ha_add (ev_op ha_add (ev_op ha_add ev_str (ev_op ha_mul ev_str (ev_var 0))) ev_str) (ev_op ha_mul ev_str (ev_var 0))) ev_nil)))))))))⟩
theorem ok__law_digits {f : Addr} {fd : FuncData} (G : T K mg c) (F : Fun K "_law_digits" "_law_digits" s__law_digits f fd)  : FnOk P w K mg base (L2.CX P w) 1 f fd ["_law_cell_here", "_law_sizes"] (spD K (m__law_digits c)) := by
  refine def_is (m := mm__law_digits c) F sc__law_digits rfl rfl fun cdv A outer s H E hr => ?_
  exact ⟨_, (pss_cons (ps_set (i := 2) sc__law_digits.nd rfl (Or.inl rfl) (pe_lst pa_nil)) (pss_cons (ps_set (i := 3) sc__law_digits.nd rfl (Or.inl rfl) (pe_callTy call_intD (by rfl) G.b_int (by decide +kernel) (pa_cons (pv 0) pa_nil))) (pss_cons (ps_if (pt_cmpR op_ge (pv 3) (pe_op op_pow pe_int pe_int) (nomark _)) (pss_cons (ps_set (i := 3) sc__law_digits.nd rfl (Or.inl rfl) (pe_op op_sub (pv 3) (pe_op op_pow pe_int pe_int))) (pss_cons (ps_for poX rfl (pi_any (pv 1)) (pg_name (i := 4) sc__law_digits.nd rfl (Or.inl rfl)) (pss_cons (ps_expr (pe_bm PySem.F.plainAttrs_list PySem.F.slot_list_append PySem.F.type_list_append mt_append (pv 2) (pa_cons (pe_op op_mod (pe_callTy call_intD (by rfl) G.b_int (by decide +kernel) (pa_cons (pv 3) pa_nil)) (pv 4)) pa_nil))) (pss_one (ps_set (i := 3) sc__law_digits.nd rfl (Or.inl rfl) (pe_op op_fdivW (pe_callTy call_intD (by rfl) G.b_int (by decide +kernel) (pa_cons (pv 3) pa_nil)) (pv 4)))))) (pss_one (ps_ret (pv 2))))) pss_nil) (pss_cons (ps_set (i := 5) sc__law_digits.nd rfl (Or.inl rfl) (pe_op op_mod (pe_callTy call_intD (by rfl) G.b_int (by decide +kernel) (pa_cons (pv 3) pa_nil)) pe_int)) (pss_cons (ps_for poX rfl (pi_range1 rfl G.b_range (pa_cons (pe_callB call_len (by rfl) G.b_len (by decide +kernel) (pa_cons (pv 1) pa_nil)) pa_nil)) (pg_name (i := 6) sc__law_digits.nd rfl (Or.inl rfl)) (pss_cons (ps_set (i := 5) sc__law_digits.nd rfl (Or.inl rfl) (pe_op op_mod (pe_callTy call_intD (by rfl) G.b_int (by decide +kernel) (pa_cons (pe_op op_addD (pe_op op_addD (pe_op op_mulD (pv 5) pe_int) (pe_op op_mulD pe_int (pv 6))) pe_int) pa_nil)) pe_int)) (pss_cons (ps_set (i := 7) sc__law_digits.nd rfl (Or.inl rfl) (pe_op op_mod (pe_callTy call_intD (by rfl) G.b_int (by decide +kernel) (pa_cons (pe_op op_mulD (pv 5) (pe_op op_addD (pe_op op_fdivW (pv 5) pe_int) pe_int)) pa_nil)) pe_int)) (pss_one (ps_expr (pe_bm PySem.F.plainAttrs_list PySem.F.slot_list_append PySem.F.type_list_append mt_append (pv 2) (pa_cons (pe_op op_mod (pe_op op_fdivW (pv 7) pe_int) (pe_ix ix_seq (pv 1) (pv 6) (fun _ _ => rfl))) pa_nil))))))) (pss_one (ps_ret (pv 2)))))))),
    (rn_seq (rn_new (i := 2) fun δ => (ev_lst (P := P) (w := w) ev_nil)) (rn_seq (rn_set (i := 3) (xp_B fun δ => (ev_cb hc_int (ev_cons (ev_var 0) ev_nil)))) (rn_seq (rn_if (xt_B fun δ => (ev_test (ev_op ha_ge (ev_var 3) (ev_op ha_pow ev_int ev_int)))) (rn_seq (rn_set (i := 3) (xp_B fun δ => (ev_op ha_sub (ev_var 3) (ev_op ha_pow ev_int ev_int)))) (rn_seq (rn_for (fun δ => (ev_any (ev_var 1))) (gt_name 4) (rn_seq (rn_app (xp_C 2) (xp_B fun δ => (ev_op ha_mod (ev_cb hc_int (ev_cons (ev_var 3) ev_nil)) (ev_var 4)))) (rn_set (i := 3) (xp_B fun δ => (ev_op ha_div (ev_cb hc_int (ev_cons (ev_var 3) ev_nil)) (ev_var 4)))))) (rn_ret (xr_V fun δ => (ev_var 2))))) rn_nil) (rn_seq (rn_set (i := 5) (xp_B fun δ => (ev_op ha_mod (ev_cb hc_int (ev_cons (ev_var 3) ev_nil)) ev_int))) (rn_seq (rn_for (fun δ => (ev_rng1 (ev_cons (ev_cb hc_len (ev_cons (ev_var 1) ev_nil)) ev_nil))) (gt_name 6) (rn_seq (rn_set (i := 5) (xp_B fun δ => (ev_op ha_mod (ev_cb hc_int (ev_cons (ev_op ha_add (ev_op ha_add (ev_op ha_mul (ev_var 5) ev_int) (ev_op ha_mul ev_int (ev_var 6))) ev_int) ev_nil)) ev_int))) (rn_seq (rn_set (i := 7) (xp_B fun δ => (ev_op ha_mod (ev_cb hc_int (ev_cons (ev_op ha_mul (ev_var 5) (ev_op ha_add (ev_op ha_div (ev_var 5) ev_int) ev_int)) ev_nil)) ev_int))) (rn_app (xp_C 2) (xp_B fun δ => (ev_op ha_mod (ev_op ha_div (ev_var 7) ev_int) (ev_op ha_ix (ev_var 1) (ev_var 6)))))))) (rn_frz 2 (rn_ret (xr_B fun δ => (ev_var 2)))))))))⟩
theorem ok__law_signs {f : Addr} {fd : FuncData} (G : T K mg c) (F : Fun K "_law_signs" "_law_signs" s__law_signs f fd)  : FnOk P w K mg base (L2.CX P w) 1 f fd [] (spD K (m__law_signs c)) := by
  refine def_is (m := mm__law_signs c) F sc__law_signs rfl rfl fun cdv A outer s H E hr => ?_
  exact ⟨_, (pss_one (ps_ret pe_str)),
    (rn_ret (xr_B fun δ => ev_str))⟩
theorem ok__law_free_text {f : Addr} {fd : FuncData} (G : T K mg c) (F : Fun K "_law_free_text" "_law_free_text" s__law_free_text f fd) (h__law_digits : Has P w K mg base 1 "_law_digits" ["_law_cell_here", "_law_sizes"] (spD K (m__law_digits c))) (h__law_signs : Has P w K mg base 1 "_law_signs" [] (spD K (m__law_signs c))) : FnOk P w K mg base (L2.CX P w) 2 f fd ["_law_cell_here", "_law_words"] (spD K (m__law_free_text c)) := by
  refine def_is (m := mm__law_free_text c) F sc__law_free_text rfl rfl fun cdv A outer s H E hr => ?_
  exact ⟨_, (pss_cons (ps_set (i := 2) sc__law_free_text.nd rfl (Or.inl rfl) (pe_cal h__law_digits hr rfl hxX (pa_cons (pv 0) (pa_cons (pe_op op_addD (pe_lst (pa_cons pe_int pa_nil)) (pe_op op_mulD (pe_lst (pa_cons pe_int pa_nil)) pe_int)) pa_nil)) (by decide))) (pss_cons (ps_set (i := 3) sc__law_free_text.nd rfl (Or.inl rfl) (pe_callTy call_intD (by rfl) G.b_int (by decide +kernel) (pa_cons (pe_ix ix_seq (pv 2) pe_int (fun _ _ => rfl)) pa_nil))) (pss_cons (ps_if (pt_cmpR op_gt (pv 3) pe_int (nomark _)) (pss_one (ps_set (i := 3) sc__law_free_text.nd rfl (Or.inl rfl) (pe_op op_mod (pe_callTy call_intD (by rfl) G.b_int (by decide +kernel) (pa_cons (pe_op op_sub (pv 3) pe_int) pa_nil)) pe_int))) pss_nil) (pss_cons (ps_set (i := 4) sc__law_free_text.nd rfl (Or.inl rfl) pe_str) (pss_cons (ps_for poX rfl (pi_range1 rfl G.b_range (pa_cons (pv 3) pa_nil)) (pg_name (i := 5) sc__law_free_text.nd rfl (Or.inl rfl)) (pss_one (ps_if (pt_cmpR op_lt (pe_ix ix_seq (pv 2) (pe_op op_addD pe_int (pv 5)) (fun _ _ => rfl)) pe_int (nomark _)) (pss_one (ps_set (i := 4) sc__law_free_text.nd rfl (Or.inl rfl) (pe_op op_addD (pv 4) (pe_ix ix_seq (pe_cal0 h__law_signs hr rfl hxX (by decide)) (pe_ix ix_seq (pv 2) (pe_op op_addD pe_int (pv 5)) (fun _ _ => rfl)) (fun _ _ => rfl))))) (pss_one (ps_set (i := 4) sc__law_free_text.nd rfl (Or.inl rfl) (pe_op op_addD (pv 4) (pe_ix ix_seq (pv 1) (pe_op op_mod (pe_callTy call_intD (by rfl) G.b_int (by decide +kernel) (pa_cons (pe_ix ix_seq (pv 2) (pe_op op_addD pe_int (pv 5)) (fun _ _ => rfl)) pa_nil)) (pe_callB call_len (by rfl) G.b_len (by decide +kernel) (pa_cons (pv 1) pa_nil))) (fun _ _ => rfl)))))))) (pss_one (ps_ret (pv 4)))))))),
    (rn_seq (rn_set (i := 2) (xp_B fun δ => (ev_call (ev_cons (ev_var 0) (ev_cons (ev_op ha_add (ev_new (ev_lst (P := P) (w := w) (ev_cons ev_int ev_nil))) (ev_op ha_mul (ev_new (ev_lst (P := P) (w := w) (ev_cons ev_int ev_nil))) ev_int)) ev_nil))))) (rn_seq (rn_set (i := 3) (xp_B fun δ => (ev_cb hc_int (ev_cons (ev_op ha_ix (ev_var 2) ev_int) ev_nil)))) (rn_seq (rn_if (xt_B fun δ => (ev_test (ev_op ha_gt (ev_var 3) ev_int))) (rn_set (i := 3) (xp_B fun δ => (ev_op ha_mod (ev_cb hc_int (ev_cons (ev_op ha_sub (ev_var 3) ev_int) ev_nil)) ev_int))) rn_nil) (rn_seq (rn_set (i := 4) (xp_B fun δ => ev_str)) (rn_seq (rn_for (fun δ => (ev_rng1 (ev_cons (ev_var 3) ev_nil))) (gt_name 5) (rn_if (xt_B fun δ => (ev_test (ev_op ha_lt (ev_op ha_ix (ev_var 2) (ev_op ha_add ev_int (ev_var 5))) ev_int))) (rn_set (i := 4) (xp_B fun δ => (ev_op ha_add (ev_var 4) (ev_op ha_ix (ev_call ev_nil) (ev_op ha_ix (ev_var 2) (ev_op ha_add ev_int (ev_var 5))))))) (rn_set (i := 4) (xp_B fun δ => (ev_op ha_add (ev_var 4) (ev_op ha_ix (ev_var 1) (ev_op ha_mod (ev_cb hc_int (ev_cons (ev_op ha_ix (ev_var 2) (ev_op ha_add ev_int (ev_var 5))) ev_nil)) (ev_cb hc_len (ev_cons (ev_var 1) ev_nil))))))))) (rn_ret (xr_B fun δ => (ev_var 4))))))))⟩
theorem ok__law_sign {f : Addr} {fd : FuncData} (G : T K mg c) (F : Fun K "_law_sign" "_law_sign" s__law_sign f fd) (h__law_signs : Has P w K mg base 1 "_law_signs" [] (spD K (m__law_signs c))) : FnOk P w K mg base (L2.CX P w) 2 f fd ["_law_digit"] (spD K (m__law_sign c)) := by
  refine def_is (m := mm__law_sign c) F sc__law_sign rfl rfl fun cdv A outer s H E hr => ?_
  exact ⟨_, (pss_cons (ps_set (i := 1) sc__law_sign.nd rfl (Or.inl rfl) pe_str) (pss_cons (ps_if (pt_cmpR (op_eqP hr.units) (pe_op op_mod (pe_callTy call_intD (by rfl) G.b_int (by decide +kernel) (pa_cons (pv 0) pa_nil)) pe_int) pe_int (nomark _)) (pss_one (ps_ret (pe_ix ix_seq (pv 1) (pe_op op_mod (pe_callTy call_intD (by rfl) G.b_int (by decide +kernel) (pa_cons (pe_op op_fdivW (pv 0) pe_int) pa_nil)) (pe_callB call_len (by rfl) G.b_len (by decide +kernel) (pa_cons (pv 1) pa_nil))) (fun _ _ => rfl)))) pss_nil) (pss_one (ps_ret (pe_ix ix_seq (pe_cal0 h__law_signs hr rfl hxX (by decide)) (pe_op op_mod (pe_callTy call_intD (by rfl) G.b_int (by decide +kernel) (pa_cons (pe_op op_fdivW (pv 0) pe_int) pa_nil)) pe_int) (fun _ _ => rfl)))))),
    (rn_seq (rn_set (i := 1) (xp_B fun δ => ev_str)) (rn_seq (rn_if (xt_B fun δ => (ev_test (ev_op ha_eq (ev_op ha_mod (ev_cb hc_int (ev_cons (ev_var 0) ev_nil)) ev_int) ev_int))) (rn_ret (xr_B fun δ => (ev_op ha_ix (ev_var 1) (ev_op ha_mod (ev_cb hc_int (ev_cons (ev_op ha_div (ev_var 0) ev_int) ev_nil)) (ev_cb hc_len (ev_cons (ev_var 1) ev_nil)))))) rn_nil) (rn_ret (xr_B fun δ => (ev_op ha_ix (ev_call ev_nil) (ev_op ha_mod (ev_cb hc_int (ev_cons (ev_op ha_div (ev_var 0) ev_int) ev_nil)) ev_int))))))⟩
theorem ok__law_spoilt {f : Addr} {fd : FuncData} (G : T K mg c) (F : Fun K "_law_spoilt" "_law_spoilt" s__law_spoilt f fd) (h__law_sign : Has P w K mg base 2 "_law_sign" ["_law_digit"] (spD K (m__law_sign c))) : FnOk P w K mg base (L2.CX P w) 3 f fd ["_law_note", "_law_row", "_law_firsts_here", "_law_further_here"] (spD K (m__law_spoilt c)) := by
  refine def_is (m := mm__law_spoilt c) F sc__law_spoilt rfl rfl fun cdv A outer s H E hr => ?_
  exact ⟨_, (pss_cons (ps_set (i := 4) sc__law_spoilt.nd rfl (Or.inl rfl) (pe_bm PySem.F.plainAttrs_str PySem.F.slot_str_split PySem.F.type_str_split mt_split (pv 0) (pa_cons pe_str pa_nil))) (pss_cons (ps_set (i := 5) sc__law_spoilt.nd rfl (Or.inl rfl) (pe_op op_mod (pe_callTy call_intD (by rfl) G.b_int (by decide +kernel) (pa_cons (pe_ix ix_seq (pv 1) pe_int (fun _ _ => rfl)) pa_nil)) (pe_op op_addD (pe_callB call_len (by rfl) G.b_len (by decide +kernel) (pa_cons (pv 0) pa_nil)) pe_int))) (pss_cons (ps_set (i := 6) sc__law_spoilt.nd rfl (Or.inl rfl) (pe_op op_mod (pe_callTy call_intD (by rfl) G.b_int (by decide +kernel) (pa_cons (pe_ix ix_seq (pv 1) pe_int (fun _ _ => rfl)) pa_nil)) (pe_callB call_len (by rfl) G.b_len (by decide +kernel) (pa_cons (pv 4) pa_nil)))) (pss_cons (ps_set (i := 7) sc__law_spoilt.nd rfl (Or.inl rfl) (pe_op op_mod (pe_callTy call_intD (by rfl) G.b_int (by decide +kernel) (pa_cons (pe_ix ix_seq (pv 1) pe_int (fun _ _ => rfl)) pa_nil)) (pe_callB call_len (by rfl) G.b_len (by decide +kernel) (pa_cons (pv 4) pa_nil)))) (pss_cons (ps_if (pt_cmpR op_lt (pe_ix ix_seq (pv 1) pe_int (fun _ _ => rfl)) pe_int (nomark _)) (pss_one (ps_ret (pe_op op_addD (pe_op op_addD (pe_slice sl_any (pv 0) po_none (po_some (pv 5))) (pe_cal h__law_sign hr rfl hxX (pa_cons (pe_ix ix_seq (pv 1) pe_int (fun _ _ => rfl)) pa_nil) (by decide))) (pe_slice sl_any (pv 0) (po_some (pv 5)) po_none)))) pss_nil) (pss_cons (ps_if (pt_cmpR op_lt (pe_ix ix_seq (pv 1) pe_int (fun _ _ => rfl)) pe_int (nomark _)) (pss_one (ps_ret (pe_op op_addD (pe_slice sl_any (pv 0) po_none (po_some (pv 5))) (pe_slice sl_any (pv 0) (po_some (pe_op op_addD (pv 5) pe_int)) po_none)))) pss_nil) (pss_cons (ps_if (pt_cmpR op_lt (pe_ix ix_seq (pv 1) pe_int (fun _ _ => rfl)) pe_int (nomark _)) (pss_one (ps_ret (pe_op op_addD (pe_op op_addD (pe_slice sl_any (pv 0) po_none (po_some (pv 5))) (pe_cal h__law_sign hr rfl hxX (pa_cons (pe_ix ix_seq (pv 1) pe_int (fun _ _ => rfl)) pa_nil) (by decide))) (pe_slice sl_any (pv 0) (po_some (pe_op op_addD (pv 5) pe_int)) po_none)))) pss_nil) (pss_cons (ps_if (pt_cmpR (op_eqP hr.units) (pe_ix ix_seq (pv 1) pe_int (fun _ _ => rfl)) pe_int (nomark _)) (pss_one (ps_expr (pe_bm PySem.F.plainAttrs_list PySem.F.slot_list_insert PySem.F.type_list_insert mt_insert (pv 4) (pa_cons (pv 7) (pa_cons (pe_ix ix_seq (pv 4) (pv 6) (fun _ _ => rfl)) pa_nil))))) pss_nil) (pss_cons (ps_if (pt_cmpR (op_eqP hr.units) (pe_ix ix_seq (pv 1) pe_int (fun _ _ => rfl)) pe_int (nomark _)) (pss_cons (ps_set (i := 8) sc__law_spoilt.nd rfl (Or.inl rfl) (pe_ix ix_seq (pv 4) (pv 6) (fun _ _ => rfl))) (pss_cons (ps_asg (pe_ix ix_seq (pv 4) (pv 7) (fun _ _ => rfl)) (pg_sub (pv 4) (pv 6) set_list)) (pss_one (ps_asg (pv 8) (pg_sub (pv 4) (pv 7) set_list))))) pss_nil) (pss_cons (ps_if (pt_cmpR (op_eqP hr.units) (pe_ix ix_seq (pv 1) pe_int (fun _ _ => rfl)) pe_int (nomark _)) (pss_one (ps_expr (pe_bm PySem.F.plainAttrs_list PySem.F.slot_list_append PySem.F.type_list_append mt_append (pv 4) (pa_cons pe_str pa_nil)))) pss_nil) (pss_cons (ps_if (pt_cmpR (op_eqP hr.units) (pe_ix ix_seq (pv 1) pe_int (fun _ _ => rfl)) pe_int (nomark _)) (pss_one (ps_asg (pe_op op_addD (pe_ix ix_seq (pv 4) (pv 6) (fun _ _ => rfl)) pe_str) (pg_sub (pv 4) (pv 6) set_list))) pss_nil) (pss_cons (ps_ifT (op_eqP hr.units) (pe_ix ix_seq (pv 1) pe_int (fun _ _ => rfl)) (nomark _) (CwR.psst_one (pst_asgT (CwR.pet_replC (pe_ix ix_seq (pv 4) (pv 6) (fun _ _ => rfl))) (pg_sub (pv 4) (pv 6) set_list))) pss_nil) (pss_cons (ps_if (pt_cmpR (op_eqP hr.units) (pe_ix ix_seq (pv 1) pe_int (fun _ _ => rfl)) pe_int (nomark _)) (pss_one (ps_expr (pe_bm PySem.F.plainAttrs_list PySem.F.slot_list_pop PySem.F.type_list_pop mt_popAt (pv 4) (pa_cons (pv 6) pa_nil)))) pss_nil) (pss_cons (ps_if (pt_cmpR (op_eqP hr.units) (pe_ix ix_seq (pv 1) pe_int (fun _ _ => rfl)) pe_int (nomark _)) (pss_one (ps_asg (pe_ix ix_seq (pv 2) (pe_op op_mod (pe_callTy call_intD (by rfl) G.b_int (by decide +kernel) (pa_cons (pe_ix ix_seq (pv 1) pe_int (fun _ _ => rfl)) pa_nil)) (pe_callB call_len (by rfl) G.b_len (by decide +kernel) (pa_cons (pv 2) pa_nil))) (fun _ _ => rfl)) (pg_sub (pv 4) pe_int set_list))) pss_nil) (pss_cons (ps_if (pt_cmpR (op_eqP hr.units) (pe_ix ix_seq (pv 1) pe_int (fun _ _ => rfl)) pe_int (nomark _)) (pss_one (ps_expr (pe_bm PySem.F.plainAttrs_list PySem.F.slot_list_insert PySem.F.type_list_insert mt_insert (pv 4) (pa_cons (pe_op op_addD pe_int (pv 7)) (pa_cons pe_str pa_nil))))) pss_nil) (pss_cons (ps_if (pt_cmpR op_gt (pe_ix ix_seq (pv 1) pe_int (fun _ _ => rfl)) pe_int (nomark _)) (pss_one (ps_expr (pe_bm PySem.F.plainAttrs_list PySem.F.slot_list_append PySem.F.type_list_append mt_append (pv 4) (pa_cons (pe_ix ix_seq (pv 3) (pe_op op_mod (pe_callTy call_intD (by rfl) G.b_int (by decide +kernel) (pa_cons (pe_ix ix_seq (pv 1) pe_int (fun _ _ => rfl)) pa_nil)) (pe_callB call_len (by rfl) G.b_len (by decide +kernel) (pa_cons (pv 3) pa_nil))) (fun _ _ => rfl)) pa_nil)))) pss_nil) (pss_one (ps_ret (pe_bm PySem.F.plainAttrs_str PySem.F.slot_str_join PySem.F.type_str_join mt_join pe_str (pa_cons (pv 4) pa_nil)))))))))))))))))))),
    (rn_seq (rn_new (i := 4) fun δ => (ev_nmb (P := P) (w := w) hm_split (ev_var 0) (ev_cons ev_str ev_nil))) (rn_seq (rn_set (i := 5) (xp_B fun δ => (ev_op ha_mod (ev_cb hc_int (ev_cons (ev_op ha_ix (ev_var 1) ev_int) ev_nil)) (ev_op ha_add (ev_cb hc_len (ev_cons (ev_var 0) ev_nil)) ev_int)))) (rn_seq (rn_set (i := 6) (xp_V fun δ => (ev_op ha_mod (ev_cb hc_int (ev_cons (ev_op ha_ix (ev_var 1) ev_int) ev_nil)) (ev_cb hc_len (ev_cons (ev_var 4) ev_nil))))) (rn_seq (rn_set (i := 7) (xp_V fun δ => (ev_op ha_mod (ev_cb hc_int (ev_cons (ev_op ha_ix (ev_var 1) ev_int) ev_nil)) (ev_cb hc_len (ev_cons (ev_var 4) ev_nil))))) (rn_seq (rn_if (xt_B fun δ => (ev_test (ev_op ha_lt (ev_op ha_ix (ev_var 1) ev_int) ev_int))) (rn_ret (xr_B fun δ => (ev_op ha_add (ev_op ha_add (ev_sl (ev_var 0) ev_noPart (ev_part (ev_var 5))) (ev_call (ev_cons (ev_op ha_ix (ev_var 1) ev_int) ev_nil))) (ev_sl (ev_var 0) (ev_part (ev_var 5)) ev_noPart)))) rn_nil) (rn_seq (rn_if (xt_B fun δ => (ev_test (ev_op ha_lt (ev_op ha_ix (ev_var 1) ev_int) ev_int))) (rn_ret (xr_B fun δ => (ev_op ha_add (ev_sl (ev_var 0) ev_noPart (ev_part (ev_var 5))) (ev_sl (ev_var 0) (ev_part (ev_op ha_add (ev_var 5) ev_int)) ev_noPart)))) rn_nil) (rn_seq (rn_if (xt_B fun δ => (ev_test (ev_op ha_lt (ev_op ha_ix (ev_var 1) ev_int) ev_int))) (rn_ret (xr_B fun δ => (ev_op ha_add (ev_op ha_add (ev_sl (ev_var 0) ev_noPart (ev_part (ev_var 5))) (ev_call (ev_cons (ev_op ha_ix (ev_var 1) ev_int) ev_nil))) (ev_sl (ev_var 0) (ev_part (ev_op ha_add (ev_var 5) ev_int)) ev_noPart)))) rn_nil) (rn_seq (rn_if (xt_B fun δ => (ev_test (ev_op ha_eq (ev_op ha_ix (ev_var 1) ev_int) ev_int))) (rn_ins (xp_C 4) (xp_B fun δ => (ev_var 7)) (xp_V fun δ => (ev_op ha_ix (ev_var 4) (ev_var 6)))) rn_nil) (rn_seq (rn_if (xt_B fun δ => (ev_test (ev_op ha_eq (ev_op ha_ix (ev_var 1) ev_int) ev_int))) (rn_seq (rn_set (i := 8) (xp_V fun δ => (ev_op ha_ix (ev_var 4) (ev_var 6)))) (rn_seq (rn_seti (xp_C 4) (xp_B fun δ => (ev_var 6)) (xp_V fun δ => (ev_op ha_ix (ev_var 4) (ev_var 7)))) (rn_seti (xp_C 4) (xp_B fun δ => (ev_var 7)) (xp_B fun δ => (ev_var 8))))) rn_nil) (rn_seq (rn_if (xt_B fun δ => (ev_test (ev_op ha_eq (ev_op ha_ix (ev_var 1) ev_int) ev_int))) (rn_app (xp_C 4) (xp_B fun δ => ev_str)) rn_nil) (rn_seq (rn_if (xt_B fun δ => (ev_test (ev_op ha_eq (ev_op ha_ix (ev_var 1) ev_int) ev_int))) (rn_seti (xp_C 4) (xp_B fun δ => (ev_var 6)) (xp_V fun δ => (ev_op ha_add (ev_op ha_ix (ev_var 4) (ev_var 6)) ev_str))) rn_nil) (rn_seq (rn_if (xt_B fun δ => (ev_test (ev_op ha_eq (ev_op ha_ix (ev_var 1) ev_int) ev_int))) (rn_seq (rn_seti (xp_C 4) (xp_B fun δ => (ev_var 6)) (xp_V fun δ => (ev_repl (ev_op ha_ix (ev_var 4) (ev_var 6))))) rn_nil) rn_nil) (rn_seq (rn_if (xt_B fun δ => (ev_test (ev_op ha_eq (ev_op ha_ix (ev_var 1) ev_int) ev_int))) (rn_popI (xp_C 4) (xp_B fun δ => (ev_var 6))) rn_nil) (rn_seq (rn_if (xt_B fun δ => (ev_test (ev_op ha_eq (ev_op ha_ix (ev_var 1) ev_int) ev_int))) (rn_seti (xp_C 4) (xp_B fun δ => ev_int) (xp_B fun δ => (ev_op ha_ix (ev_var 2) (ev_op ha_mod (ev_cb hc_int (ev_cons (ev_op ha_ix (ev_var 1) ev_int) ev_nil)) (ev_cb hc_len (ev_cons (ev_var 2) ev_nil)))))) rn_nil) (rn_seq (rn_if (xt_B fun δ => (ev_test (ev_op ha_eq (ev_op ha_ix (ev_var 1) ev_int) ev_int))) (rn_ins (xp_C 4) (xp_B fun δ => (ev_op ha_add ev_int (ev_var 7))) (xp_B fun δ => ev_str)) rn_nil) (rn_seq (rn_if (xt_B fun δ => (ev_test (ev_op ha_gt (ev_op ha_ix (ev_var 1) ev_int) ev_int))) (rn_app (xp_C 4) (xp_B fun δ => (ev_op ha_ix (ev_var 3) (ev_op ha_mod (ev_cb hc_int (ev_cons (ev_op ha_ix (ev_var 1) ev_int) ev_nil)) (ev_cb hc_len (ev_cons (ev_var 3) ev_nil)))))) rn_nil) (rn_frz 4 (rn_ret (xr_B fun δ => (ev_mb hm_join ev_str (ev_cons (ev_var 4) ev_nil)))))))))))))))))))))⟩
theorem ok__law_cell {f : Addr} {fd : FuncData} (G : T K mg c) (F : Fun K "_law_cell" "_law_cell" s__law_cell f fd)  : FnOk P w K mg base (L2.CX P w) 1 f fd ["_law_script", "_law_k"] (spD K (m__law_cell c)) := by
  refine def_is (m := mm__law_cell c) F sc__law_cell rfl rfl fun cdv A outer s H E hr => ?_
  exact ⟨_, (pss_cons (ps_if (pt_cmpR op_lt (pv 1) (pe_callB call_len (by rfl) G.b_len (by decide +kernel) (pa_cons (pv 0) pa_nil)) (nomark _)) (pss_one (ps_ret (pe_ix ix_seq (pv 0) (pv 1) (fun _ _ => rfl)))) pss_nil) (pss_cons (ps_set (i := 2) sc__law_cell.nd rfl (Or.inl rfl) pe_int) (pss_cons (ps_for poX rfl (pi_any (pv 0)) (pg_name (i := 3) sc__law_cell.nd rfl (Or.inl rfl)) (pss_one (ps_set (i := 2) sc__law_cell.nd rfl (Or.inl rfl) (pe_op op_mod (pe_callTy call_intD (by rfl) G.b_int (by decide +kernel) (pa_cons (pe_op op_addD (pe_op op_mulD (pv 2) pe_int) (pe_op op_mod (pe_callTy call_intD (by rfl) G.b_int (by decide +kernel) (pa_cons (pv 3) pa_nil)) pe_int)) pa_nil)) pe_int)))) (pss_one (ps_ret (pe_op op_mod (pe_callTy call_intD (by rfl) G.b_int (by decide +kernel) (pa_cons (pe_op op_mulD (pe_op op_mulD (pe_op op_addD (pv 2) pe_int) (pe_op op_addD (pv 1) pe_int)) pe_int) pa_nil)) pe_int)))))),
    (rn_seq (rn_if (xt_B fun δ => (ev_test (ev_op ha_lt (ev_var 1) (ev_cb hc_len (ev_cons (ev_var 0) ev_nil))))) (rn_ret (xr_B fun δ => (ev_op ha_ix (ev_var 0) (ev_var 1)))) rn_nil) (rn_seq (rn_set (i := 2) (xp_B fun δ => ev_int)) (rn_seq (rn_for (fun δ => (ev_any (ev_var 0))) (gt_name 3) (rn_set (i := 2) (xp_B fun δ => (ev_op ha_mod (ev_cb hc_int (ev_cons (ev_op ha_add (ev_op ha_mul (ev_var 2) ev_int) (ev_op ha_mod (ev_cb hc_int (ev_cons (ev_var 3) ev_nil)) ev_int)) ev_nil)) ev_int)))) (rn_ret (xr_B fun δ => (ev_op ha_mod (ev_cb hc_int (ev_cons (ev_op ha_mul (ev_op ha_mul (ev_op ha_add (ev_var 2) ev_int) (ev_op ha_add (ev_var 1) ev_int)) ev_int) ev_nil)) ev_int))))))⟩
theorem ok__law_name {f : Addr} {fd : FuncData} (G : T K mg c) (F : Fun K "_law_name" "_law_name" s__law_name f fd)  : FnOk P w K mg base (L2.CX P w) 1 f fd ["_law_row"] (spD K (m__law_name c)) := by
  refine def_is (m := mm__law_name c) F sc__law_name rfl rfl fun cdv A outer s H E hr => ?_
  exact ⟨_, (pss_cons (ps_set (i := 1) sc__law_name.nd rfl (Or.inr rfl) pe_str) (pss_cons (ps_if (pt_cmpR (op_eqP hr.units) (pe_ix ix_seq (pv 0) pe_int (fun _ _ => rfl)) pe_int (nomark _)) (pss_one (ps_ret (pe_ix ix_seq (pe_lst (pa_cons pe_str (pa_cons pe_str (pa_cons pe_str (pa_cons pe_str (pa_cons pe_str (pa_cons pe_str (pa_cons pe_str (pa_cons pe_str pa_nil))))))))) (pe_ix ix_seq (pv 0) pe_int (fun _ _ => rfl)) (fun _ _ => rfl)))) pss_nil) (pss_one (ps_ret (pe_op op_addD (pe_ix ix_seq (pv 1) (pe_ix ix_seq (pv 0) pe_int (fun _ _ => rfl)) (fun _ _ => rfl)) (pe_bm PySem.F.plainAttrs_str PySem.F.slot_str_join PySem.F.type_str_join mt_join pe_str (pa_cons (pe_lc (own := [("_law_k", 2)]) (g := (gName 2)) (tt := tYes) (te := (tOp (rIx K) (tOp (rAdd4 K) (tVar 1) (tC (.str "0123456789"))) (tOp (rIx K) (tVar 0) (tOp (rAdd4 K) (tC (.int 3)) (tVar 2))))) rfl sc__law_name.nd (pi_range1 rfl G.b_range (pa_cons (pe_ix ix_seq (pv 0) pe_int (fun _ _ => rfl)) pa_nil)) (blkOk_by (N := ["_law_row", "_law_letters", "_law_k"]) (sc := defScope s__law_name) (by decide +kernel)) (fun _ _ _ _ _ => (pg_name (i := 2) sc__law_name.nd rfl (Or.inl rfl))) (fun _ _ _ _ _ => pts_nil) (fun _ _ _ _ _ => (pe_ix ix_seq (pe_op op_addD (pv 1) pe_str) (pe_ix ix_seq (pv 0) (pe_op op_addD pe_int (pv 2)) (fun _ _ => rfl)) (fun _ _ => rfl)))) pa_nil))))))),
    (rn_seq (rn_set (i := 1) (xp_B fun δ => ev_str)) (rn_seq (rn_if (xt_B fun δ => (ev_test (ev_op ha_eq (ev_op ha_ix (ev_var 0) ev_int) ev_int))) (rn_ret (xr_B fun δ => (ev_op ha_ix (ev_new (ev_lst (P := P) (w := w) (ev_cons ev_str (ev_cons ev_str (ev_cons ev_str (ev_cons ev_str (ev_cons ev_str (ev_cons ev_str (ev_cons ev_str (ev_cons ev_str ev_nil)))))))))) (ev_op ha_ix (ev_var 0) ev_int)))) rn_nil) (rn_ret (xr_B fun δ => (ev_op ha_add (ev_op ha_ix (ev_var 1) (ev_op ha_ix (ev_var 0) ev_int)) (ev_mb hm_join ev_str (ev_cons (ev_new (ev_lc (P := P) (w := w) (vs := [2]) (ev_rng1 (ev_cons (ev_op ha_ix (ev_var 0) ev_int) ev_nil)) (ge_name 2) ev_yes (fun δ => (ev_op ha_ix (ev_op ha_add (ev_var 1) ev_str) (ev_op ha_ix (ev_var 0) (ev_op ha_add ev_int (ev_var 2))))))) ev_nil)))))))⟩
theorem ok__law_any_stamp {f : Addr} {fd : FuncData} (G : T K mg c) (F : Fun K "_law_any_stamp" "_law_any_stamp" s__law_any_stamp f fd)  : FnOk P w K mg base (L2.CX P w) 1 f fd ["_law_row", "_law_size"] (spD K (m__law_any_stamp c)) := by
  refine def_is (m := mm__law_any_stamp c) F sc__law_any_stamp rfl rfl fun cdv A outer s H E hr => ?_
  exact ⟨_, (pss_cons (ps_set (i := 2) sc__law_any_stamp.nd rfl (Or.inr rfl) pe_str) (pss_cons (ps_set (i := 3) sc__law_any_stamp.nd rfl (Or.inl rfl) (pe_bm PySem.F.plainAttrs_str PySem.F.slot_str_join PySem.F.type_str_join mt_join pe_str (pa_cons (pe_lc (own := [("_law_k", 5)]) (g := (gName 5)) (tt := tYes) (te := (tOp (rIx K) (tOp (rAdd4 K) (tVar 2) (tOp rMul3 (tC (.str "-")) (tC (.int 27)))) (tOp (rI (fun _ j => 0 < j) fun i j => .int (i % j)) (tCB rInt3 (tCons (tOp (rIx K) (tVar 0) (tVar 5)) tNil)) (tC (.int 54))))) rfl sc__law_any_stamp.nd (pi_range1 rfl G.b_range (pa_cons (pv 1) pa_nil)) (blkOk_by (N := ["_law_row", "_law_size", "_law_alls", "_law_made", "_law_at", "_law_k"]) (sc := defScope s__law_any_stamp) (by decide +kernel)) (fun _ _ _ _ _ => (pg_name (i := 5) sc__law_any_stamp.nd rfl (Or.inl rfl))) (fun _ _ _ _ _ => pts_nil) (fun _ _ _ _ _ => (pe_ix ix_seq (pe_op op_addD (pv 2) (pe_op op_mulD pe_str pe_int)) (pe_op op_mod (pe_callTy call_intD (by rfl) G.b_int (by decide +kernel) (pa_cons (pe_ix ix_seq (pv 0) (pv 5) (fun _ _ => rfl)) pa_nil)) pe_int) (fun _ _ => rfl)))) pa_nil))) (pss_cons (ps_if (pt_cmpR (op_eqP hr.units) (pv 3) (pe_op op_mulD pe_str (pv 1)) (nomark _)) (pss_cons (ps_set (i := 4) sc__law_any_stamp.nd rfl (Or.inl rfl) (pe_op op_mod (pe_callTy call_intD (by rfl) G.b_int (by decide +kernel) (pa_cons (pe_callB (cr_sum rfl) (by rfl) G.b_sum (by decide +kernel) (pa_cons (pv 0) pa_nil)) pa_nil)) (pv 1))) (pss_one (ps_set (i := 3) sc__law_any_stamp.nd rfl (Or.inl rfl) (pe_op op_addD (pe_op op_addD (pe_slice sl_any (pv 3) po_none (po_some (pv 4))) (pe_ix ix_seq (pv 2) (pe_op op_mod (pe_callTy call_intD (by rfl) G.b_int (by decide +kernel) (pa_cons (pe_ix ix_seq (pv 0) pe_int (fun _ _ => rfl)) pa_nil)) pe_int) (fun _ _ => rfl))) (pe_slice sl_any (pv 3) (po_some (pe_op op_addD (pv 4) pe_int)) po_none))))) pss_nil) (pss_one (ps_ret (pv 3)))))),
    (rn_seq (rn_set (i := 2) (xp_B fun δ => ev_str)) (rn_seq (rn_set (i := 3) (xp_B fun δ => (ev_mb hm_join ev_str (ev_cons (ev_new (ev_lc (P := P) (w := w) (vs := [5]) (ev_rng1 (ev_cons (ev_var 1) ev_nil)) (ge_name 5) ev_yes (fun δ => (ev_op ha_ix (ev_op ha_add (ev_var 2) (ev_op ha_mul ev_str ev_int)) (ev_op ha_mod (ev_cb hc_int (ev_cons (ev_op ha_ix (ev_var 0) (ev_var 5)) ev_nil)) ev_int))))) ev_nil)))) (rn_seq (rn_if (xt_B fun δ => (ev_test (ev_op ha_eq (ev_var 3) (ev_op ha_mul ev_str (ev_var 1))))) (rn_seq (rn_set (i := 4) (xp_B fun δ => (ev_op ha_mod (ev_cb hc_int (ev_cons (ev_cb hc_sum (ev_cons (ev_var 0) ev_nil)) ev_nil)) (ev_var 1)))) (rn_set (i := 3) (xp_B fun δ => (ev_op ha_add (ev_op ha_add (ev_sl (ev_var 3) ev_noPart (ev_part (ev_var 4))) (ev_op ha_ix (ev_var 2) (ev_op ha_mod (ev_cb hc_int (ev_cons (ev_op ha_ix (ev_var 0) ev_int) ev_nil)) ev_int))) (ev_sl (ev_var 3) (ev_part (ev_op ha_add (ev_var 4) ev_int)) ev_noPart))))) rn_nil) (rn_ret (xr_B fun δ => (ev_var 3))))))⟩
theorem ok__law_stamps {f : Addr} {fd : FuncData} (G : T K mg c) (F : Fun K "_law_stamps" "_law_stamps" s__law_stamps f fd) (h__law_digits : Has P w K mg base 1 "_law_digits" ["_law_cell_here", "_law_sizes"] (spD K (m__law_digits c))) (h__law_cell : Has P w K mg base 1 "_law_cell" ["_law_script", "_law_k"] (spD K (m__law_cell c))) (h__law_fresh : Has P w K mg base 1 "_law_fresh" ["_law_name_here", "_law_taken"] (spD K (m__law_fresh c))) (h__law_name : Has P w K mg base 1 "_law_name" ["_law_row"] (spD K (m__law_name c))) (h__law_any_stamp : Has P w K mg base 1 "_law_any_stamp" ["_law_row", "_law_size"] (spD K (m__law_any_stamp c))) : FnOk P w K mg base (L2.CX P w) 2 f fd ["_law_script", "_law_at", "_law_many", "_law_size"] (spC P w K (m__law_stamps c)) := by
  refine defC_is (m := mm__law_stamps c) F sc__law_stamps rfl rfl fun cdv A outer s H E hr => ?_
  exact ⟨_, (pss_cons (ps_set (i := 4) sc__law_stamps.nd rfl (Or.inl rfl) (pe_lst pa_nil)) (pss_cons (ps_for poX rfl (pi_range1 rfl G.b_range (pa_cons (pv 2) pa_nil)) (pg_name (i := 5) sc__law_stamps.nd rfl (Or.inl rfl)) (pss_cons (ps_set (i := 6) sc__law_stamps.nd rfl (Or.inl rfl) (pe_cal h__law_digits hr rfl hxX (pa_cons (pe_cal h__law_cell hr rfl hxX (pa_cons (pv 0) (pa_cons (pe_op op_addD (pv 1) (pv 5)) pa_nil)) (by decide)) (pa_cons (pe_op op_addD (pe_op op_addD (pe_lst (pa_cons pe_int (pa_cons pe_int (pa_cons pe_int pa_nil)))) (pe_op op_mulD (pe_lst (pa_cons pe_int pa_nil)) pe_int)) (pe_op op_mulD (pe_lst (pa_cons pe_int pa_nil)) (pv 3))) pa_nil)) (by decide))) (pss_cons (ps_set (i := 7) sc__law_stamps.nd rfl (Or.inl rfl) (pe_cal h__law_fresh hr rfl hxX (pa_cons (pe_cal h__law_name hr rfl hxX (pa_cons (pv 6) pa_nil) (by decide)) (pa_cons (pe_lc (own := [("_law_stamp", 8)]) (g := (gName 8)) (tt := tYes) (te := (tOp (rIx K) (tVar 8) (tC (.int 0)))) rfl sc__law_stamps.nd (pi_any (pv 4)) (blkOk_by (N := ["_law_script", "_law_at", "_law_many", "_law_size", "_law_stamps_here", "_law_k", "_law_row", "_law_name_here", "_law_stamp"]) (sc := defScope s__law_stamps) (by decide +kernel)) (fun _ _ _ _ _ => (pg_name (i := 8) sc__law_stamps.nd rfl (Or.inl rfl))) (fun _ _ _ _ _ => pts_nil) (fun _ _ _ _ _ => (pe_ix ix_seq (pv 8) pe_int (fun _ _ => rfl)))) pa_nil)) (by decide))) (pss_one (ps_expr (pe_bm PySem.F.plainAttrs_list PySem.F.slot_list_append PySem.F.type_list_append mt_append (pv 4) (pa_cons (pe_lst (pa_cons (pv 7) (pa_cons (pe_cal h__law_any_stamp hr rfl hxX (pa_cons (pe_slice sl_any (pv 6) (po_some pe_int) po_none) (pa_cons (pv 3) pa_nil)) (by decide)) pa_nil))) pa_nil))))))) (pss_one (ps_ret (pv 4))))),
    (rn_seq (rn_new (i := 4) fun δ => (ev_lst (P := P) (w := w) ev_nil)) (rn_seq (rn_for (fun δ => (ev_rng1 (ev_cons (ev_var 2) ev_nil))) (gt_name 5) (rn_seq (rn_set (i := 6) (xp_B fun δ => (ev_call (ev_cons (ev_call (ev_cons (ev_var 0) (ev_cons (ev_op ha_add (ev_var 1) (ev_var 5)) ev_nil))) (ev_cons (ev_op ha_add (ev_op ha_add (ev_new (ev_lst (P := P) (w := w) (ev_cons ev_int (ev_cons ev_int (ev_cons ev_int ev_nil))))) (ev_op ha_mul (ev_new (ev_lst (P := P) (w := w) (ev_cons ev_int ev_nil))) ev_int)) (ev_op ha_mul (ev_new (ev_lst (P := P) (w := w) (ev_cons ev_int ev_nil))) (ev_var 3))) ev_nil))))) (rn_seq (rn_set (i := 7) (xp_V fun δ => (ev_call (ev_cons (ev_call (ev_cons (ev_var 6) ev_nil)) (ev_cons (ev_new (ev_lc (P := P) (w := w) (vs := [8]) (ev_any (ev_var 4)) (ge_name 8) ev_yes (fun δ => (ev_op ha_ix (ev_var 8) ev_int)))) ev_nil))))) (rn_appN (xp_C 4) fun δ => (ev_lst (P := P) (w := w) (ev_cons (ev_var 7) (ev_cons (ev_call (ev_cons (ev_sl (ev_var 6) (ev_part ev_int) ev_noPart) (ev_cons (ev_var 3) ev_nil))) ev_nil))))))) (rn_retC 4)))⟩
theorem ok__law_layer {f : Addr} {fd : FuncData} (G : T K mg c) (F : Fun K "_law_layer" "_law_layer" s__law_layer f fd)  : FnOk P w K mg base (L2.CX P w) 1 f fd ["_law_row", "_law_size"] (spD K (m__law_layer c)) := by
  refine def_is (m := mm__law_layer c) F sc__law_layer rfl rfl fun cdv A outer s H E hr => ?_
  exact ⟨_, (pss_one (ps_ret (pe_bm PySem.F.plainAttrs_str PySem.F.slot_str_join PySem.F.type_str_join mt_join pe_str (pa_cons (pe_lc (own := [("_law_k", 2)]) (g := (gName 2)) (tt := tYes) (te := (tOp (rIx K) (tOp (rAdd4 K) (tC (.str ".abcdefghijklmnopqrstuvwxyz")) (tOp rMul3 (tC (.str "-")) (tC (.int 27)))) (tOp (rI (fun _ j => 0 < j) fun i j => .int (i % j)) (tCB rInt3 (tCons (tOp (rIx K) (tVar 0) (tVar 2)) tNil)) (tC (.int 54))))) rfl sc__law_layer.nd (pi_range1 rfl G.b_range (pa_cons (pv 1) pa_nil)) (blkOk_by (N := ["_law_row", "_law_size", "_law_k"]) (sc := defScope s__law_layer) (by decide +kernel)) (fun _ _ _ _ _ => (pg_name (i := 2) sc__law_layer.nd rfl (Or.inl rfl))) (fun _ _ _ _ _ => pts_nil) (fun _ _ _ _ _ => (pe_ix ix_seq (pe_op op_addD pe_str (pe_op op_mulD pe_str pe_int)) (pe_op op_mod (pe_callTy call_intD (by rfl) G.b_int (by decide +kernel) (pa_cons (pe_ix ix_seq (pv 0) (pv 2) (fun _ _ => rfl)) pa_nil)) pe_int) (fun _ _ => rfl)))) pa_nil)))),
    (rn_ret (xr_B fun δ => (ev_mb hm_join ev_str (ev_cons (ev_new (ev_lc (P := P) (w := w) (vs := [2]) (ev_rng1 (ev_cons (ev_var 1) ev_nil)) (ge_name 2) ev_yes (fun δ => (ev_op ha_ix (ev_op ha_add ev_str (ev_op ha_mul ev_str ev_int)) (ev_op ha_mod (ev_cb hc_int (ev_cons (ev_op ha_ix (ev_var 0) (ev_var 2)) ev_nil)) ev_int))))) ev_nil))))⟩
theorem ok_law {f : Addr} {fd : FuncData} (G : T K mg c) (F : Fun K "law" "law" s_law f fd) (h__law_digits : Has P w K mg base 1 "_law_digits" ["_law_cell_here", "_law_sizes"] (spD K (m__law_digits c))) (h__law_cell : Has P w K mg base 1 "_law_cell" ["_law_script", "_law_k"] (spD K (m__law_cell c))) (h__law_stamps : Has P w K mg base 2 "_law_stamps" ["_law_script", "_law_at", "_law_many", "_law_size"] (spC P w K (m__law_stamps c))) (h__law_layer : Has P w K mg base 1 "_law_layer" ["_law_row", "_law_size"] (spD K (m__law_layer c))) (h__law_notes : Has P w K mg base 3 "_law_notes" ["_law_size", "_law_stamps_here", "_law_pairs", "_law_digits_here"] (spD K (m__law_notes c))) (h_Stock___init__ : HasI P w K mg base 6 "Stock" c.Stock ["self", "size", "stamps"] (spI K c.Stock (m_Stock___init__ c))) (h_Box___init__ : HasI P w K mg base 6 "Box" c.Box ["self", "stock", "pairs"] (spI K c.Box (m_Box___init__ c))) (h__law_alike : Has P w K mg base 6 "_law_alike" ["_law_told_here", "_law_due"] (spD K (m__law_alike c 4))) (h_format_stock : Has P w K mg base 2 "format_stock" ["stock"] (spD K (m_format_stock c))) (h_format_box : Has P w K mg base 2 "format_box" ["box"] (spD K (m_format_box c))) (h__law_asked : Has P w K mg base 12 "_law_asked" ["_law_note", "_law_named"] (spD K (m__law_asked c))) (h__law_further : Has P w K mg base 2 "_law_further" ["_law_size", "_law_taken"] (spD K (m__law_further c))) (h__law_spoilt : Has P w K mg base 3 "_law_spoilt" ["_law_note", "_law_row", "_law_firsts_here", "_law_further_here"] (spD K (m__law_spoilt c))) (h__law_firsts : Has P w K mg base 1 "_law_firsts" ["_law_size"] (spD K (m__law_firsts c))) (h__law_free_text : Has P w K mg base 2 "_law_free_text" ["_law_cell_here", "_law_words"] (spD K (m__law_free_text c))) (h_format_stockN : HasN P w K mg base 2 "format_stock" ["stock"] 0 ["stock"] (spD K (m_format_stock c))) (h_format_boxN : HasN P w K mg base 2 "format_box" ["box"] 0 ["box"] (spD K (m_format_box c))) : FnOk P w K mg base (L2.CX P w) 13 f fd ["_law_script"] (spD K (m_law c)) := by
  refine def_is (m := mm_law c) F sc_law rfl rfl fun cdv A outer s H E hr => ?_
  exact ⟨_, (pss_cons (ps_set (i := 1) sc_law.nd rfl (Or.inl rfl) (pe_cal h__law_digits hr rfl hxX (pa_cons (pe_cal h__law_cell hr rfl hxX (pa_cons (pv 0) (pa_cons pe_int pa_nil)) (by decide)) (pa_cons (pe_op op_addD (pe_lst (pa_cons pe_int (pa_cons pe_int (pa_cons pe_int (pa_cons pe_int (pa_cons pe_int (pa_cons pe_int (pa_cons pe_int (pa_cons pe_int (pa_cons pe_int pa_nil)))))))))) (pe_op op_mulD (pe_lst (pa_cons pe_int pa_nil)) pe_int)) pa_nil)) (by decide))) (pss_cons (ps_set (i := 2) sc_law.nd rfl (Or.inl rfl) (pe_ix ix_seq (pe_lst (pa_cons pe_int (pa_cons pe_int (pa_cons pe_int (pa_cons pe_int (pa_cons pe_int (pa_cons pe_int (pa_cons pe_int (pa_cons pe_int (pa_cons pe_int (pa_cons pe_int (pa_cons pe_int (pa_cons pe_int pa_nil))))))))))))) (pe_ix ix_seq (pv 1) pe_int (fun _ _ => rfl)) (fun _ _ => rfl))) (pss_cons (ps_set (i := 3) sc_law.nd rfl (Or.inl rfl) (pe_ix ix_seq (pe_lst (pa_cons pe_int (pa_cons pe_int (pa_cons pe_int (pa_cons pe_int (pa_cons pe_int (pa_cons pe_int (pa_cons pe_int (pa_cons pe_int (pa_cons pe_int (pa_cons pe_int (pa_cons pe_int (pa_cons pe_int pa_nil))))))))))))) (pe_ix ix_seq (pv 1) pe_int (fun _ _ => rfl)) (fun _ _ => rfl))) (pss_cons (ps_set (i := 4) sc_law.nd rfl (Or.inl rfl) (pe_cal h__law_stamps hr rfl hxX (pa_cons (pv 0) (pa_cons pe_int (pa_cons (pv 3) (pa_cons (pv 2) pa_nil)))) (by decide))) (pss_cons (ps_if (PW.pt (pw_and (pt_cmpR (op_eqP hr.units) (pe_ix ix_seq (pv 1) pe_int (fun _ _ => rfl)) pe_int (nomark _)) (pw_and (pt_cmpR op_gt (pv 3) pe_int (nomark _)) (pw_and1 (pt_cmpR op_notInA pe_str (pe_lc (own := [("_law_stamp", 16)]) (g := (gName 16)) (tt := tYes) (te := (tOp (rIx K) (tVar 16) (tC (.int 0)))) rfl sc_law.nd (pi_any (pv 4)) (blkOk_by (N := ["_law_script", "_law_head", "_law_size", "_law_many", "_law_stamps_here", "_law_called", "_law_pairs", "_law_k", "_law_row", "_law_notes_here", "_law_built", "_law_told_here", "_law_further_here", "_law_note", "_law_turn", "_law_words", "_law_stamp", "_law_pair"]) (sc := defScope s_law) (by decide +kernel)) (fun _ _ _ _ _ => (pg_name (i := 16) sc_law.nd rfl (Or.inl rfl))) (fun _ _ _ _ _ => pts_nil) (fun _ _ _ _ _ => (pe_ix ix_seq (pv 16) pe_int (fun _ _ => rfl)))) (by rfl)))))) (pss_cons (ps_set (i := 5) sc_law.nd rfl (Or.inl rfl) (pe_ix ix_seq (pv 4) (pe_op op_mod (pe_callTy call_intD (by rfl) G.b_int (by decide +kernel) (pa_cons (pe_ix ix_seq (pv 1) pe_int (fun _ _ => rfl)) pa_nil)) (pe_callB (call_min2 rfl) (by rfl) G.b_min (by decide +kernel) (pa_cons pe_int (pa_cons (pv 3) pa_nil)))) (fun _ _ => rfl))) (pss_one (ps_asg pe_str (pg_sub (pv 5) pe_int set_list)))) pss_nil) (pss_cons (ps_set (i := 6) sc_law.nd rfl (Or.inl rfl) (pe_lst pa_nil)) (pss_cons (ps_for poX rfl (pi_range1 rfl G.b_range (pa_cons (pe_ix ix_seq (pv 1) pe_int (fun _ _ => rfl)) pa_nil)) (pg_name (i := 7) sc_law.nd rfl (Or.inl rfl)) (pss_cons (ps_set (i := 8) sc_law.nd rfl (Or.inl rfl) (pe_cal h__law_digits hr rfl hxX (pa_cons (pe_cal h__law_cell hr rfl hxX (pa_cons (pv 0) (pa_cons (pe_op op_addD pe_int (pv 7)) pa_nil)) (by decide)) (pa_cons (pe_op op_mulD (pe_op op_mulD (pe_lst (pa_cons pe_int pa_nil)) (pv 2)) pe_int) pa_nil)) (by decide))) (pss_one (ps_expr (pe_bm PySem.F.plainAttrs_list PySem.F.slot_list_append PySem.F.type_list_append mt_append (pv 6) (pa_cons (pe_lst (pa_cons (pe_cal h__law_layer hr rfl hxX (pa_cons (pv 8) (pa_cons (pv 2) pa_nil)) (by decide)) (pa_cons (pe_cal h__law_layer hr rfl hxX (pa_cons (pe_slice sl_any (pv 8) (po_some (pv 2)) po_none) (pa_cons (pv 2) pa_nil)) (by decide)) pa_nil))) pa_nil)))))) (pss_cons (ps_set (i := 9) sc_law.nd rfl (Or.inl rfl) (pe_cal h__law_notes hr rfl hxX (pa_cons (pv 2) (pa_cons (pv 4) (pa_cons (pv 6) (pa_cons (pe_slice sl_any (pv 1) (po_some pe_int) (po_some pe_int)) pa_nil)))) (by decide))) (pss_cons (ps_set (i := 10) sc_law.nd rfl (Or.inl rfl) (pe_mak h_Stock___init__ hr rfl hxX (pa_cons (pv 2) (pa_cons (pe_lc (own := [("_law_stamp", 16)]) (g := (gName 16)) (tt := tYes) (te := (tCB (rListOf K) (tCons (tVar 16) tNil))) rfl sc_law.nd (pi_any (pv 4)) (blkOk_by (N := ["_law_script", "_law_head", "_law_size", "_law_many", "_law_stamps_here", "_law_called", "_law_pairs", "_law_k", "_law_row", "_law_notes_here", "_law_built", "_law_told_here", "_law_further_here", "_law_note", "_law_turn", "_law_words", "_law_stamp", "_law_pair"]) (sc := defScope s_law) (by decide +kernel)) (fun _ _ _ _ _ => (pg_name (i := 16) sc_law.nd rfl (Or.inl rfl))) (fun _ _ _ _ _ => pts_nil) (fun _ _ _ _ _ => (pe_callTy call_list_of (by rfl) G.b_list (by decide +kernel) (pa_cons (pv 16) pa_nil)))) pa_nil)) (by decide))) (pss_cons (ps_set (i := 11) sc_law.nd rfl (Or.inl rfl) (pe_mak h_Box___init__ hr rfl hxX (pa_cons (pe_mak h_Stock___init__ hr rfl hxX (pa_cons (pv 2) (pa_cons (pe_lc (own := [("_law_stamp", 16)]) (g := (gName 16)) (tt := tYes) (te := (tCB (rListOf K) (tCons (tVar 16) tNil))) rfl sc_law.nd (pi_any (pe_slice sl_any (pv 4) po_none (po_some pe_int))) (blkOk_by (N := ["_law_script", "_law_head", "_law_size", "_law_many", "_law_stamps_here", "_law_called", "_law_pairs", "_law_k", "_law_row", "_law_notes_here", "_law_built", "_law_told_here", "_law_further_here", "_law_note", "_law_turn", "_law_words", "_law_stamp", "_law_pair"]) (sc := defScope s_law) (by decide +kernel)) (fun _ _ _ _ _ => (pg_name (i := 16) sc_law.nd rfl (Or.inl rfl))) (fun _ _ _ _ _ => pts_nil) (fun _ _ _ _ _ => (pe_callTy call_list_of (by rfl) G.b_list (by decide +kernel) (pa_cons (pv 16) pa_nil)))) pa_nil)) (by decide)) (pa_cons (pe_lc (own := [("_law_pair", 17)]) (g := (gName 17)) (tt := tYes) (te := (tCB (rListOf K) (tCons (tVar 17) tNil))) rfl sc_law.nd (pi_any (pv 6)) (blkOk_by (N := ["_law_script", "_law_head", "_law_size", "_law_many", "_law_stamps_here", "_law_called", "_law_pairs", "_law_k", "_law_row", "_law_notes_here", "_law_built", "_law_told_here", "_law_further_here", "_law_note", "_law_turn", "_law_words", "_law_stamp", "_law_pair"]) (sc := defScope s_law) (by decide +kernel)) (fun _ _ _ _ _ => (pg_name (i := 17) sc_law.nd rfl (Or.inl rfl))) (fun _ _ _ _ _ => pts_nil) (fun _ _ _ _ _ => (pe_callTy call_list_of (by rfl) G.b_list (by decide +kernel) (pa_cons (pv 17) pa_nil)))) pa_nil)) (by decide))) (pss_cons (ps_if (PW.pt (pw_or (pt_not (pt_val (pe_cal h__law_alike hr rfl hxX (pa_cons (pe_cal h_format_stock hr rfl hxX (pa_cons (pv 10) pa_nil) (by decide)) (pa_cons (pe_ix ix_seq (pe_ix ix_seq (pv 9) pe_int (fun _ _ => rfl)) pe_int (fun _ _ => rfl)) pa_nil)) (by decide)))) (pw_or1 (pt_not (pt_val (pe_cal h__law_alike hr rfl hxX (pa_cons (pe_cal h_format_box hr rfl hxX (pa_cons (pv 11) pa_nil) (by decide)) (pa_cons (pe_ix ix_seq (pe_ix ix_seq (pv 9) pe_int (fun _ _ => rfl)) pe_int (fun _ _ => rfl)) pa_nil)) (by decide))))))) (pss_one (ps_ret pe_bl)) pss_nil) (pss_cons (ps_for poX rfl (pi_range1 rfl G.b_range (pa_cons pe_int pa_nil)) (pg_name (i := 7) sc_law.nd rfl (Or.inl rfl)) (pss_one (ps_if (PW.pt (pw_or (pt_not (pt_val (pe_cal h__law_asked hr rfl hxX (pa_cons (pe_ix ix_seq (pe_ix ix_seq (pv 9) pe_int (fun _ _ => rfl)) (pv 7) (fun _ _ => rfl)) (pa_cons (pe_cmpR (op_eqP hr.units) (pe_ix ix_seq (pv 1) pe_int (fun _ _ => rfl)) (pv 7) (nomark _)) pa_nil)) (by decide)))) (pw_or1 (pt_not (pt_val (pe_cal h__law_asked hr rfl hxX (pa_cons (pe_ix ix_seq (pe_ix ix_seq (pv 9) pe_int (fun _ _ => rfl)) (pv 7) (fun _ _ => rfl)) (pa_cons (pe_cmpR (op_neP hr.units) (pe_ix ix_seq (pv 1) pe_int (fun _ _ => rfl)) (pv 7) (nomark _)) pa_nil)) (by decide))))))) (pss_one (ps_ret pe_bl)) pss_nil))) (pss_cons (ps_set (i := 12) sc_law.nd rfl (Or.inl rfl) (pe_cal h__law_further hr rfl hxX (pa_cons (pv 2) (pa_cons (pe_lc (own := [("_law_stamp", 16)]) (g := (gName 16)) (tt := tYes) (te := (tOp (rIx K) (tVar 16) (tC (.int 0)))) rfl sc_law.nd (pi_any (pv 4)) (blkOk_by (N := ["_law_script", "_law_head", "_law_size", "_law_many", "_law_stamps_here", "_law_called", "_law_pairs", "_law_k", "_law_row", "_law_notes_here", "_law_built", "_law_told_here", "_law_further_here", "_law_note", "_law_turn", "_law_words", "_law_stamp", "_law_pair"]) (sc := defScope s_law) (by decide +kernel)) (fun _ _ _ _ _ => (pg_name (i := 16) sc_law.nd rfl (Or.inl rfl))) (fun _ _ _ _ _ => pts_nil) (fun _ _ _ _ _ => (pe_ix ix_seq (pv 16) pe_int (fun _ _ => rfl)))) pa_nil)) (by decide))) (pss_cons (ps_for poX rfl (pi_range1 rfl G.b_range (pa_cons pe_int pa_nil)) (pg_name (i := 7) sc_law.nd rfl (Or.inl rfl)) (pss_cons (ps_set (i := 13) sc_law.nd rfl (Or.inl rfl) (pe_ix ix_seq (pe_ix ix_seq (pv 9) pe_int (fun _ _ => rfl)) (pe_op op_fdivW (pv 7) pe_int) (fun _ _ => rfl))) (pss_cons (ps_for poX rfl (pi_range1 rfl G.b_range (pa_cons (pe_op op_addD pe_int (pe_ix ix_seq (pv 1) (pe_op op_addD pe_int (pv 7)) (fun _ _ => rfl))) pa_nil)) (pg_name (i := 14) sc_law.nd rfl (Or.inl rfl)) (pss_cons (ps_set (i := 8) sc_law.nd rfl (Or.inl rfl) (pe_cal h__law_digits hr rfl hxX (pa_cons (pe_cal h__law_cell hr rfl hxX (pa_cons (pv 0) (pa_cons (pe_op op_addD (pe_op op_addD pe_int (pe_op op_mulD pe_int (pv 7))) (pv 14)) pa_nil)) (by decide)) (pa_cons (pe_lst (pa_cons pe_int (pa_cons pe_int (pa_cons pe_int (pa_cons pe_int pa_nil))))) pa_nil)) (by decide))) (pss_one (ps_set (i := 13) sc_law.nd rfl (Or.inl rfl) (pe_cal h__law_spoilt hr rfl hxX (pa_cons (pv 13) (pa_cons (pv 8) (pa_cons (pe_cal h__law_firsts hr rfl hxX (pa_cons (pv 2) pa_nil) (by decide)) (pa_cons (pv 12) pa_nil)))) (by decide)))))) (pss_one (ps_if (pt_not (pt_val (pe_cal h__law_asked hr rfl hxX (pa_cons (pv 13) (pa_cons (pe_cmpR (op_eqP hr.units) (pe_op op_mod (pe_callTy call_intD (by rfl) G.b_int (by decide +kernel) (pa_cons (pe_op op_addD (pv 7) (pe_ix ix_seq (pv 1) pe_int (fun _ _ => rfl))) pa_nil)) pe_int) pe_int (nomark _)) pa_nil)) (by decide)))) (pss_one (ps_ret pe_bl)) pss_nil))))) (pss_cons (ps_set (i := 15) sc_law.nd rfl (Or.inl rfl) (pe_lst (pa_cons pe_str (pa_cons pe_str (pa_cons pe_str (pa_cons pe_str (pa_cons pe_str (pa_cons pe_str (pa_cons pe_str (pa_cons pe_str (pa_cons pe_str (pa_cons pe_str (pa_cons pe_str (pa_cons pe_str (pa_cons pe_str (pa_cons pe_str (pa_cons pe_str (pa_cons pe_str pa_nil)))))))))))))))))) (pss_cons (ps_set (i := 15) sc_law.nd rfl (Or.inl rfl) (pe_op op_addD (pv 15) (pe_lst (pa_cons pe_str (pa_cons pe_str pa_nil))))) (pss_cons (ps_for poX rfl (pi_range1 rfl G.b_range (pa_cons pe_int pa_nil)) (pg_name (i := 7) sc_law.nd rfl (Or.inl rfl)) (pss_one (ps_if (pt_not (pt_val (pe_cal h__law_asked hr rfl hxX (pa_cons (pe_cal h__law_free_text hr rfl hxX (pa_cons (pe_cal h__law_cell hr rfl hxX (pa_cons (pv 0) (pa_cons (pe_op op_addD pe_int (pv 7)) pa_nil)) (by decide)) (pa_cons (pv 15) pa_nil)) (by decide)) (pa_cons (pe_cmpR (op_eqP hr.units) (pe_op op_mod (pv 7) pe_int) pe_int (nomark _)) pa_nil)) (by decide)))) (pss_one (ps_ret pe_bl)) pss_nil))) (pss_cons (ps_if (PW.pt (pw_or (pt_not (pt_val (pe_cal h__law_alike hr rfl hxX (pa_cons (pe_calN0 h_format_stockN hr rfl hxX (pk_cons (pv 10) pk_nil) (by decide)) (pa_cons (pe_ix ix_seq (pe_ix ix_seq (pv 9) pe_int (fun _ _ => rfl)) pe_int (fun _ _ => rfl)) pa_nil)) (by decide)))) (pw_or1 (pt_not (pt_val (pe_cal h__law_alike hr rfl hxX (pa_cons (pe_calN0 h_format_boxN hr rfl hxX (pk_cons (pv 11) pk_nil) (by decide)) (pa_cons (pe_ix ix_seq (pe_ix ix_seq (pv 9) pe_int (fun _ _ => rfl)) pe_int (fun _ _ => rfl)) pa_nil)) (by decide))))))) (pss_one (ps_ret pe_bl)) pss_nil) (pss_one (ps_ret (pe_and (pe_cal h__law_asked hr rfl hxX (pa_cons (pe_ix ix_seq (pe_ix ix_seq (pv 9) pe_int (fun _ _ => rfl)) pe_int (fun _ _ => rfl)) (pa_cons (pe_cmpR (op_eqP hr.units) (pe_ix ix_seq (pv 1) pe_int (fun _ _ => rfl)) pe_int (nomark _)) pa_nil)) (by decide)) (pe_one (pe_cal h__law_asked hr rfl hxX (pa_cons (pe_ix ix_seq (pe_ix ix_seq (pv 9) pe_int (fun _ _ => rfl)) pe_int (fun _ _ => rfl)) (pa_cons (pe_cmpR (op_eqP hr.units) (pe_ix ix_seq (pv 1) pe_int (fun _ _ => rfl)) pe_int (nomark _)) pa_nil)) (by decide)))))))))))))))))))))))),
    (rn_seq (rn_set (i := 1) (xp_B fun δ => (ev_call (ev_cons (ev_call (ev_cons (ev_var 0) (ev_cons ev_int ev_nil))) (ev_cons (ev_op ha_add (ev_new (ev_lst (P := P) (w := w) (ev_cons ev_int (ev_cons ev_int (ev_cons ev_int (ev_cons ev_int (ev_cons ev_int (ev_cons ev_int (ev_cons ev_int (ev_cons ev_int (ev_cons ev_int ev_nil))))))))))) (ev_op ha_mul (ev_new (ev_lst (P := P) (w := w) (ev_cons ev_int ev_nil))) ev_int)) ev_nil))))) (rn_seq (rn_set (i := 2) (xp_B fun δ => (ev_op ha_ix (ev_new (ev_lst (P := P) (w := w) (ev_cons ev_int (ev_cons ev_int (ev_cons ev_int (ev_cons ev_int (ev_cons ev_int (ev_cons ev_int (ev_cons ev_int (ev_cons ev_int (ev_cons ev_int (ev_cons ev_int (ev_cons ev_int (ev_cons ev_int ev_nil)))))))))))))) (ev_op ha_ix (ev_var 1) ev_int)))) (rn_seq (rn_set (i := 3) (xp_B fun δ => (ev_op ha_ix (ev_new (ev_lst (P := P) (w := w) (ev_cons ev_int (ev_cons ev_int (ev_cons ev_int (ev_cons ev_int (ev_cons ev_int (ev_cons ev_int (ev_cons ev_int (ev_cons ev_int (ev_cons ev_int (ev_cons ev_int (ev_cons ev_int (ev_cons ev_int ev_nil)))))))))))))) (ev_op ha_ix (ev_var 1) ev_int)))) (rn_seq (rn_setC (i := 4) fun δ => (ev_cons (ev_var 0) (ev_cons ev_int (ev_cons (ev_var 3) (ev_cons (ev_var 2) ev_nil))))) (rn_seq (rn_if (xt_and (xt_B fun δ => (ev_test (ev_op ha_eq (ev_op ha_ix (ev_var 1) ev_int) ev_int))) (xt_and (xt_B fun δ => (ev_test (ev_op ha_gt (ev_var 3) ev_int))) (xt_V fun δ => (ev_test (ev_op ha_notIn ev_str (ev_new (ev_lc (P := P) (w := w) (vs := [16]) (ev_any (ev_var 4)) (ge_name 16) ev_yes (fun δ => (ev_op ha_ix (ev_var 16) ev_int))))))))) (rn_seq (rn_setIx (i := 5) (xp_C 4) (xp_B fun δ => (ev_op ha_mod (ev_cb hc_int (ev_cons (ev_op ha_ix (ev_var 1) ev_int) ev_nil)) (ev_cb hc_min2 (ev_cons ev_int (ev_cons (ev_var 3) ev_nil)))))) (rn_seti (xp_C 5) (xp_B fun δ => ev_int) (xp_B fun δ => ev_str))) rn_nil) (rn_frzD 4 (rn_seq (rn_new (i := 6) fun δ => (ev_lst (P := P) (w := w) ev_nil)) (rn_seq (rn_for (fun δ => (ev_rng1 (ev_cons (ev_op ha_ix (ev_var 1) ev_int) ev_nil))) (gt_name 7) (rn_seq (rn_set (i := 8) (xp_B fun δ => (ev_call (ev_cons (ev_call (ev_cons (ev_var 0) (ev_cons (ev_op ha_add ev_int (ev_var 7)) ev_nil))) (ev_cons (ev_op ha_mul (ev_op ha_mul (ev_new (ev_lst (P := P) (w := w) (ev_cons ev_int ev_nil))) (ev_var 2)) ev_int) ev_nil))))) (rn_app (xp_C 6) (xp_B fun δ => (ev_new (ev_lst (P := P) (w := w) (ev_cons (ev_call (ev_cons (ev_var 8) (ev_cons (ev_var 2) ev_nil))) (ev_cons (ev_call (ev_cons (ev_sl (ev_var 8) (ev_part (ev_var 2)) ev_noPart) (ev_cons (ev_var 2) ev_nil))) ev_nil)))))))) (rn_frz 6 (rn_seq (rn_set (i := 9) (xp_B fun δ => (ev_call (ev_cons (ev_var 2) (ev_cons (ev_var 4) (ev_cons (ev_var 6) (ev_cons (ev_sl (ev_var 1) (ev_part ev_int) (ev_part ev_int)) ev_nil))))))) (rn_seq (rn_set (i := 10) (xp_B fun δ => (ev_make (ev_cons (ev_var 2) (ev_cons (ev_new (ev_lc (P := P) (w := w) (vs := [16]) (ev_any (ev_var 4)) (ge_name 16) ev_yes (fun δ => (ev_new (ev_ncb (P := P) (w := w) hn_list (ev_cons (ev_var 16) ev_nil)))))) ev_nil))))) (rn_seq (rn_set (i := 11) (xp_B fun δ => (ev_make (ev_cons (ev_make (ev_cons (ev_var 2) (ev_cons (ev_new (ev_lc (P := P) (w := w) (vs := [16]) (ev_any (ev_sl (ev_var 4) ev_noPart (ev_part ev_int))) (ge_name 16) ev_yes (fun δ => (ev_new (ev_ncb (P := P) (w := w) hn_list (ev_cons (ev_var 16) ev_nil)))))) ev_nil))) (ev_cons (ev_new (ev_lc (P := P) (w := w) (vs := [17]) (ev_any (ev_var 6)) (ge_name 17) ev_yes (fun δ => (ev_new (ev_ncb (P := P) (w := w) hn_list (ev_cons (ev_var 17) ev_nil)))))) ev_nil))))) (rn_seq (rn_if (xt_B fun δ => (ev_or (ev_not (ev_tB (ev_call (ev_cons (ev_call (ev_cons (ev_var 10) ev_nil)) (ev_cons (ev_op ha_ix (ev_op ha_ix (ev_var 9) ev_int) ev_int) ev_nil))))) (ev_not (ev_tB (ev_call (ev_cons (ev_call (ev_cons (ev_var 11) ev_nil)) (ev_cons (ev_op ha_ix (ev_op ha_ix (ev_var 9) ev_int) ev_int) ev_nil))))))) (rn_ret (xr_B fun δ => ev_bl)) rn_nil) (rn_seq (rn_for (fun δ => (ev_rng1 (ev_cons ev_int ev_nil))) (gt_name 7) (rn_if (xt_B fun δ => (ev_or (ev_not (ev_tB (ev_call (ev_cons (ev_op ha_ix (ev_op ha_ix (ev_var 9) ev_int) (ev_var 7)) (ev_cons (ev_op ha_eq (ev_op ha_ix (ev_var 1) ev_int) (ev_var 7)) ev_nil))))) (ev_not (ev_tB (ev_call (ev_cons (ev_op ha_ix (ev_op ha_ix (ev_var 9) ev_int) (ev_var 7)) (ev_cons (ev_op ha_ne (ev_op ha_ix (ev_var 1) ev_int) (ev_var 7)) ev_nil))))))) (rn_ret (xr_B fun δ => ev_bl)) rn_nil)) (rn_seq (rn_set (i := 12) (xp_B fun δ => (ev_call (ev_cons (ev_var 2) (ev_cons (ev_new (ev_lc (P := P) (w := w) (vs := [16]) (ev_any (ev_var 4)) (ge_name 16) ev_yes (fun δ => (ev_op ha_ix (ev_var 16) ev_int)))) ev_nil))))) (rn_seq (rn_for (fun δ => (ev_rng1 (ev_cons ev_int ev_nil))) (gt_name 7) (rn_seq (rn_set (i := 13) (xp_B fun δ => (ev_op ha_ix (ev_op ha_ix (ev_var 9) ev_int) (ev_op ha_div (ev_var 7) ev_int)))) (rn_seq (rn_for (fun δ => (ev_rng1 (ev_cons (ev_op ha_add ev_int (ev_op ha_ix (ev_var 1) (ev_op ha_add ev_int (ev_var 7)))) ev_nil))) (gt_name 14) (rn_seq (rn_set (i := 8) (xp_B fun δ => (ev_call (ev_cons (ev_call (ev_cons (ev_var 0) (ev_cons (ev_op ha_add (ev_op ha_add ev_int (ev_op ha_mul ev_int (ev_var 7))) (ev_var 14)) ev_nil))) (ev_cons (ev_new (ev_lst (P := P) (w := w) (ev_cons ev_int (ev_cons ev_int (ev_cons ev_int (ev_cons ev_int ev_nil)))))) ev_nil))))) (rn_set (i := 13) (xp_B fun δ => (ev_call (ev_cons (ev_var 13) (ev_cons (ev_var 8) (ev_cons (ev_call (ev_cons (ev_var 2) ev_nil)) (ev_cons (ev_var 12) ev_nil))))))))) (rn_if (xt_B fun δ => (ev_not (ev_tB (ev_call (ev_cons (ev_var 13) (ev_cons (ev_op ha_eq (ev_op ha_mod (ev_cb hc_int (ev_cons (ev_op ha_add (ev_var 7) (ev_op ha_ix (ev_var 1) ev_int)) ev_nil)) ev_int) ev_int) ev_nil)))))) (rn_ret (xr_B fun δ => ev_bl)) rn_nil)))) (rn_seq (rn_set (i := 15) (xp_B fun δ => (ev_new (ev_lst (P := P) (w := w) (ev_cons ev_str (ev_cons ev_str (ev_cons ev_str (ev_cons ev_str (ev_cons ev_str (ev_cons ev_str (ev_cons ev_str (ev_cons ev_str (ev_cons ev_str (ev_cons ev_str (ev_cons ev_str (ev_cons ev_str (ev_cons ev_str (ev_cons ev_str (ev_cons ev_str (ev_cons ev_str ev_nil)))))))))))))))))))) (rn_seq (rn_set (i := 15) (xp_B fun δ => (ev_op ha_add (ev_var 15) (ev_new (ev_lst (P := P) (w := w) (ev_cons ev_str (ev_cons ev_str ev_nil))))))) (rn_seq (rn_for (fun δ => (ev_rng1 (ev_cons ev_int ev_nil))) (gt_name 7) (rn_if (xt_B fun δ => (ev_not (ev_tB (ev_call (ev_cons (ev_call (ev_cons (ev_call (ev_cons (ev_var 0) (ev_cons (ev_op ha_add ev_int (ev_var 7)) ev_nil))) (ev_cons (ev_var 15) ev_nil))) (ev_cons (ev_op ha_eq (ev_op ha_mod (ev_var 7) ev_int) ev_int) ev_nil)))))) (rn_ret (xr_B fun δ => ev_bl)) rn_nil)) (rn_seq (rn_if (xt_B fun δ => (ev_or (ev_not (ev_tB (ev_call (ev_cons (ev_callN ev_nil (ev_cons (ev_var 10) ev_nil)) (ev_cons (ev_op ha_ix (ev_op ha_ix (ev_var 9) ev_int) ev_int) ev_nil))))) (ev_not (ev_tB (ev_call (ev_cons (ev_callN ev_nil (ev_cons (ev_var 11) ev_nil)) (ev_cons (ev_op ha_ix (ev_op ha_ix (ev_var 9) ev_int) ev_int) ev_nil))))))) (rn_ret (xr_B fun δ => ev_bl)) rn_nil) (rn_ret (xr_B fun δ => (ev_andV (ev_call (ev_cons (ev_op ha_ix (ev_op ha_ix (ev_var 9) ev_int) ev_int) (ev_cons (ev_op ha_eq (ev_op ha_ix (ev_var 1) ev_int) ev_int) ev_nil))) (ev_call (ev_cons (ev_op ha_ix (ev_op ha_ix (ev_var 9) ev_int) ev_int) (ev_cons (ev_op ha_eq (ev_op ha_ix (ev_var 1) ev_int) ev_int) ev_nil))))))))))))))))))))))))))⟩
end
end LK
namespace LK
open PySem PySem.Spec PyProof.Rows L2 DL
set_option autoImplicit false
def spLaw (K : PySem.W.Frag) : Sp := fun vs H Q _ => ∃ (a : Addr) (ns : List Int), vs = [.ref a] ∧ SqL K H a (ns.map V.int) ∧ ns.length ≤ 63 ∧ (∀ z ∈ ns, Builtin.Int.intBits z ≤ 1048576) ∧ ∀ H', Q (.bl true) H'
theorem law_imp {K : PySem.W.Frag} {c : Ad} (hm : ∀ ns : List Int, ns.length ≤ 63 → (∀ z ∈ ns, Builtin.Int.intBits z ≤ 1048576) → m_law c [.sq ns] = .ok (.bl true)) (vs : List V) (H : Hp) (Q : VK) (E : XK) (h : spLaw K vs H Q E) : spD K (m_law c) vs H Q E := by
  obtain ⟨a, ns, rfl, hs, hl, hb, k⟩ := h
  refine ⟨H, [.sq ns], Evl.Ex.refl _, .one (.sq hs), ?_⟩
  rw [hm ns hl hb]
  intro v Hx' H' g r
  cases r
  exact k H'
theorem kbn_mk {K : PySem.W.Frag} {fd : FuncData} {ps ks : List Str} {n : Nat} (h : ∀ (s : Shared) (us ws : List Value), us.length = n → ws.length = ks.length → BindsTo s fd ⟨us, ks.zip ws⟩ (ps.zip (us ++ ws))) : ∃ g, KBn K fd ps n ks g gApp :=
  ⟨fun us ws => us ++ ws, fun s us ws _ l1 l2 => h s us ws l1 l2, fun r1 r2 => r1.append r2⟩
theorem all_mk {P : Program} {w : World} {K : PySem.W.Frag} {h : Heap} {mg : Str → Option Value} {fa : Addr} (X : K.In h) (G : h.Ns mainGlobals mg) (hfa : mg "law" = some (.ref fa))
    {C_StampError : Addr} {C_BadName : Addr} {C_BadStamp : Addr} {C_NameTaken : Addr} {C_UnknownName : Addr} {C_BadNote : Addr} {C_BadClaimText : Addr} {C_Stock : Addr} {C_Box : Addr} {t_DIGITS : Tok} {t_FIGURES : Tok} {t_LETTERS : Tok} {t_LONGEST_NAME : Tok} {t_MOST_BOX_STAMPS : Tok} {t_MOST_CELLS_layers : Tok} {t_MOST_CELLS_stocknotes : Tok} {t_MOST_PAIRS : Tok} {t_MOST_STAMPS : Tok} {t_PAIR : Tok} {t_SIGNS : Tok} {t_STOCK_WORD : Tok} {nm_BadNote : Str} {q_BadNote : Str} {N_BadNote : Addr} {bs_BadNote : List Value} {bm_BadNote : List Value} {sn_BadNote : List Str} {sub_BadNote : List Value} {ab_BadNote : Bool} {col_BadNote : Option Bool} {dd_BadNote : Option Addr} {m0_BadNote : Option Value} {m1_BadNote : Option Value} {m2_BadNote : Option Value} {m3_BadNote : Option Value} {m5_BadNote : Option Value} {f_number_in : Addr} {oc_number_in : Value} {od_number_in : Option Addr} {kV_number_in : Value} {dc_number_in : Value} {pm_number_in : Value} {an_number_in : Option Addr} {cd_number_in : Value} {ct_number_in : Value} {sl_number_in : Array (Option Value)} {f_size_in : Addr} {oc_size_in : Value} {od_size_in : Option Addr} {kV_size_in : Value} {dc_size_in : Value} {pm_size_in : Value} {an_size_in : Option Addr} {cd_size_in : Value} {ct_size_in : Value} {sl_size_in : Array (Option Value)} {f_BadNote___init__ : Addr} {oc_BadNote___init__ : Value} {od_BadNote___init__ : Option Addr} {kV_BadNote___init__ : Value} {dc_BadNote___init__ : Value} {pm_BadNote___init__ : Value} {an_BadNote___init__ : Option Addr} {cd_BadNote___init__ : Value} {ct_BadNote___init__ : Value} {sl_BadNote___init__ : Array (Option Value)} {f_is_name : Addr} {oc_is_name : Value} {od_is_name : Option Addr} {kV_is_name : Value} {dc_is_name : Value} {pm_is_name : Value} {an_is_name : Option Addr} {cd_is_name : Value} {ct_is_name : Value} {sl_is_name : Array (Option Value)} {f_is_layer : Addr} {oc_is_layer : Value} {od_is_layer : Option Addr} {kV_is_layer : Value} {dc_is_layer : Value} {pm_is_layer : Value} {an_is_layer : Option Addr} {cd_is_layer : Value} {ct_is_layer : Value} {sl_is_layer : Array (Option Value)} {f_empty_layer : Addr} {oc_empty_layer : Value} {od_empty_layer : Option Addr} {kV_empty_layer : Value} {dc_empty_layer : Value} {pm_empty_layer : Value} {an_empty_layer : Option Addr} {cd_empty_layer : Value} {ct_empty_layer : Value} {sl_empty_layer : Array (Option Value)} {f_stamp_in : Addr} {oc_stamp_in : Value} {od_stamp_in : Option Addr} {kV_stamp_in : Value} {dc_stamp_in : Value} {pm_stamp_in : Value} {an_stamp_in : Option Addr} {cd_stamp_in : Value} {ct_stamp_in : Value} {sl_stamp_in : Array (Option Value)} {f_frozen : Addr} {oc_frozen : Value} {od_frozen : Option Addr} {kV_frozen : Value} {dc_frozen : Value} {pm_frozen : Value} {an_frozen : Option Addr} {cd_frozen : Value} {ct_frozen : Value} {sl_frozen : Array (Option Value)} {f_is_stamp : Addr} {oc_is_stamp : Value} {od_is_stamp : Option Addr} {kV_is_stamp : Value} {dc_is_stamp : Value} {pm_is_stamp : Value} {an_is_stamp : Option Addr} {cd_is_stamp : Value} {ct_is_stamp : Value} {sl_is_stamp : Array (Option Value)} {f_Stock___init__ : Addr} {oc_Stock___init__ : Value} {od_Stock___init__ : Option Addr} {kV_Stock___init__ : Value} {dc_Stock___init__ : Value} {pm_Stock___init__ : Value} {an_Stock___init__ : Option Addr} {cd_Stock___init__ : Value} {ct_Stock___init__ : Value} {sl_Stock___init__ : Array (Option Value)} {f_stock_in : Addr} {oc_stock_in : Value} {od_stock_in : Option Addr} {kV_stock_in : Value} {dc_stock_in : Value} {pm_stock_in : Value} {an_stock_in : Option Addr} {cd_stock_in : Value} {ct_stock_in : Value} {sl_stock_in : Array (Option Value)} {f_parse_stock : Addr} {oc_parse_stock : Value} {od_parse_stock : Option Addr} {kV_parse_stock : Value} {dc_parse_stock : Value} {pm_parse_stock : Value} {an_parse_stock : Option Addr} {cd_parse_stock : Value} {ct_parse_stock : Value} {sl_parse_stock : Array (Option Value)} {f_is_pair_line : Addr} {oc_is_pair_line : Value} {od_is_pair_line : Option Addr} {kV_is_pair_line : Value} {dc_is_pair_line : Value} {pm_is_pair_line : Value} {an_is_pair_line : Option Addr} {cd_is_pair_line : Value} {ct_is_pair_line : Value} {sl_is_pair_line : Array (Option Value)} {f_first_pair_line : Addr} {oc_first_pair_line : Value} {od_first_pair_line : Option Addr} {kV_first_pair_line : Value} {dc_first_pair_line : Value} {pm_first_pair_line : Value} {an_first_pair_line : Option Addr} {cd_first_pair_line : Value} {ct_first_pair_line : Value} {sl_first_pair_line : Array (Option Value)} {f_is_layer_of : Addr} {oc_is_layer_of : Value} {od_is_layer_of : Option Addr} {kV_is_layer_of : Value} {dc_is_layer_of : Value} {pm_is_layer_of : Value} {an_is_layer_of : Option Addr} {cd_is_layer_of : Value} {ct_is_layer_of : Value} {sl_is_layer_of : Array (Option Value)} {f_pair_in : Addr} {oc_pair_in : Value} {od_pair_in : Option Addr} {kV_pair_in : Value} {dc_pair_in : Value} {pm_pair_in : Value} {an_pair_in : Option Addr} {cd_pair_in : Value} {ct_pair_in : Value} {sl_pair_in : Array (Option Value)} {f_Box___init__ : Addr} {oc_Box___init__ : Value} {od_Box___init__ : Option Addr} {kV_Box___init__ : Value} {dc_Box___init__ : Value} {pm_Box___init__ : Value} {an_Box___init__ : Option Addr} {cd_Box___init__ : Value} {ct_Box___init__ : Value} {sl_Box___init__ : Array (Option Value)} {f_parse_box : Addr} {oc_parse_box : Value} {od_parse_box : Option Addr} {kV_parse_box : Value} {dc_parse_box : Value} {pm_parse_box : Value} {an_parse_box : Option Addr} {cd_parse_box : Value} {ct_parse_box : Value} {sl_parse_box : Array (Option Value)} {f__law_is_layer : Addr} {oc__law_is_layer : Value} {od__law_is_layer : Option Addr} {kV__law_is_layer : Value} {dc__law_is_layer : Value} {pm__law_is_layer : Value} {an__law_is_layer : Option Addr} {cd__law_is_layer : Value} {ct__law_is_layer : Value} {sl__law_is_layer : Array (Option Value)} {f__law_is_name : Addr} {oc__law_is_name : Value} {od__law_is_name : Option Addr} {kV__law_is_name : Value} {dc__law_is_name : Value} {pm__law_is_name : Value} {an__law_is_name : Option Addr} {cd__law_is_name : Value} {ct__law_is_name : Value} {sl__law_is_name : Array (Option Value)} {f__law_read : Addr} {oc__law_read : Value} {od__law_read : Option Addr} {kV__law_read : Value} {dc__law_read : Value} {pm__law_read : Value} {an__law_read : Option Addr} {cd__law_read : Value} {ct__law_read : Value} {sl__law_read : Array (Option Value)} {f__law_told : Addr} {oc__law_told : Value} {od__law_told : Option Addr} {kV__law_told : Value} {dc__law_told : Value} {pm__law_told : Value} {an__law_told : Option Addr} {cd__law_told : Value} {ct__law_told : Value} {sl__law_told : Array (Option Value)} {f__law_whole : Addr} {oc__law_whole : Value} {od__law_whole : Option Addr} {kV__law_whole : Value} {dc__law_whole : Value} {pm__law_whole : Value} {an__law_whole : Option Addr} {cd__law_whole : Value} {ct__law_whole : Value} {sl__law_whole : Array (Option Value)} {f__law_alike : Addr} {oc__law_alike : Value} {od__law_alike : Option Addr} {kV__law_alike : Value} {dc__law_alike : Value} {pm__law_alike : Value} {an__law_alike : Option Addr} {cd__law_alike : Value} {ct__law_alike : Value} {sl__law_alike : Array (Option Value)} {f_Stock_names : Addr} {p_Stock_names : Addr} {rs_Stock_names : List Value} {oc_Stock_names : Value} {od_Stock_names : Option Addr} {kV_Stock_names : Value} {dc_Stock_names : Value} {pm_Stock_names : Value} {an_Stock_names : Option Addr} {cd_Stock_names : Value} {ct_Stock_names : Value} {sl_Stock_names : Array (Option Value)} {f_Stock___eq__ : Addr} {oc_Stock___eq__ : Value} {od_Stock___eq__ : Option Addr} {kV_Stock___eq__ : Value} {dc_Stock___eq__ : Value} {pm_Stock___eq__ : Value} {an_Stock___eq__ : Option Addr} {cd_Stock___eq__ : Value} {ct_Stock___eq__ : Value} {sl_Stock___eq__ : Array (Option Value)} {f__law_is_stock : Addr} {oc__law_is_stock : Value} {od__law_is_stock : Option Addr} {kV__law_is_stock : Value} {dc__law_is_stock : Value} {pm__law_is_stock : Value} {an__law_is_stock : Option Addr} {cd__law_is_stock : Value} {ct__law_is_stock : Value} {sl__law_is_stock : Array (Option Value)} {f_stock_lines : Addr} {oc_stock_lines : Value} {od_stock_lines : Option Addr} {kV_stock_lines : Value} {dc_stock_lines : Value} {pm_stock_lines : Value} {an_stock_lines : Option Addr} {cd_stock_lines : Value} {ct_stock_lines : Value} {sl_stock_lines : Array (Option Value)} {f_format_stock : Addr} {oc_format_stock : Value} {od_format_stock : Option Addr} {kV_format_stock : Value} {dc_format_stock : Value} {pm_format_stock : Value} {an_format_stock : Option Addr} {cd_format_stock : Value} {ct_format_stock : Value} {sl_format_stock : Array (Option Value)} {f__law_stock_asked : Addr} {oc__law_stock_asked : Value} {od__law_stock_asked : Option Addr} {kV__law_stock_asked : Value} {dc__law_stock_asked : Value} {pm__law_stock_asked : Value} {an__law_stock_asked : Option Addr} {cd__law_stock_asked : Value} {ct__law_stock_asked : Value} {sl__law_stock_asked : Array (Option Value)} {f_Box___len__ : Addr} {oc_Box___len__ : Value} {od_Box___len__ : Option Addr} {kV_Box___len__ : Value} {dc_Box___len__ : Value} {pm_Box___len__ : Value} {an_Box___len__ : Option Addr} {cd_Box___len__ : Value} {ct_Box___len__ : Value} {sl_Box___len__ : Array (Option Value)} {f_Box___eq__ : Addr} {oc_Box___eq__ : Value} {od_Box___eq__ : Option Addr} {kV_Box___eq__ : Value} {dc_Box___eq__ : Value} {pm_Box___eq__ : Value} {an_Box___eq__ : Option Addr} {cd_Box___eq__ : Value} {ct_Box___eq__ : Value} {sl_Box___eq__ : Array (Option Value)} {f_format_box : Addr} {oc_format_box : Value} {od_format_box : Option Addr} {kV_format_box : Value} {dc_format_box : Value} {pm_format_box : Value} {an_format_box : Option Addr} {cd_format_box : Value} {ct_format_box : Value} {sl_format_box : Array (Option Value)} {f__law_asked : Addr} {oc__law_asked : Value} {od__law_asked : Option Addr} {kV__law_asked : Value} {dc__law_asked : Value} {pm__law_asked : Value} {an__law_asked : Option Addr} {cd__law_asked : Value} {ct__law_asked : Value} {sl__law_asked : Array (Option Value)} {f__law_fresh : Addr} {oc__law_fresh : Value} {od__law_fresh : Option Addr} {kV__law_fresh : Value} {dc__law_fresh : Value} {pm__law_fresh : Value} {an__law_fresh : Option Addr} {cd__law_fresh : Value} {ct__law_fresh : Value} {sl__law_fresh : Array (Option Value)} {f__law_full : Addr} {oc__law_full : Value} {od__law_full : Option Addr} {kV__law_full : Value} {dc__law_full : Value} {pm__law_full : Value} {an__law_full : Option Addr} {cd__law_full : Value} {ct__law_full : Value} {sl__law_full : Array (Option Value)} {f__law_notes : Addr} {oc__law_notes : Value} {od__law_notes : Option Addr} {kV__law_notes : Value} {dc__law_notes : Value} {pm__law_notes : Value} {an__law_notes : Option Addr} {cd__law_notes : Value} {ct__law_notes : Value} {sl__law_notes : Array (Option Value)} {f__law_further : Addr} {oc__law_further : Value} {od__law_further : Option Addr} {kV__law_further : Value} {dc__law_further : Value} {pm__law_further : Value} {an__law_further : Option Addr} {cd__law_further : Value} {ct__law_further : Value} {sl__law_further : Array (Option Value)} {f__law_firsts : Addr} {oc__law_firsts : Value} {od__law_firsts : Option Addr} {kV__law_firsts : Value} {dc__law_firsts : Value} {pm__law_firsts : Value} {an__law_firsts : Option Addr} {cd__law_firsts : Value} {ct__law_firsts : Value} {sl__law_firsts : Array (Option Value)} {f__law_digits : Addr} {oc__law_digits : Value} {od__law_digits : Option Addr} {kV__law_digits : Value} {dc__law_digits : Value} {pm__law_digits : Value} {an__law_digits : Option Addr} {cd__law_digits : Value} {ct__law_digits : Value} {sl__law_digits : Array (Option Value)} {f__law_signs : Addr} {oc__law_signs : Value} {od__law_signs : Option Addr} {kV__law_signs : Value} {dc__law_signs : Value} {pm__law_signs : Value} {an__law_signs : Option Addr} {cd__law_signs : Value} {ct__law_signs : Value} {sl__law_signs : Array (Option Value)} {f__law_free_text : Addr} {oc__law_free_text : Value} {od__law_free_text : Option Addr} {kV__law_free_text : Value} {dc__law_free_text : Value} {pm__law_free_text : Value} {an__law_free_text : Option Addr} {cd__law_free_text : Value} {ct__law_free_text : Value} {sl__law_free_text : Array (Option Value)} {f__law_sign : Addr} {oc__law_sign : Value} {od__law_sign : Option Addr} {kV__law_sign : Value} {dc__law_sign : Value} {pm__law_sign : Value} {an__law_sign : Option Addr} {cd__law_sign : Value} {ct__law_sign : Value} {sl__law_sign : Array (Option Value)} {f__law_spoilt : Addr} {oc__law_spoilt : Value} {od__law_spoilt : Option Addr} {kV__law_spoilt : Value} {dc__law_spoilt : Value} {pm__law_spoilt : Value} {an__law_spoilt : Option Addr} {cd__law_spoilt : Value} {ct__law_spoilt : Value} {sl__law_spoilt : Array (Option Value)} {f__law_cell : Addr} {oc__law_cell : Value} {od__law_cell : Option Addr} {kV__law_cell : Value} {dc__law_cell : Value} {pm__law_cell : Value} {an__law_cell : Option Addr} {cd__law_cell : Value} {ct__law_cell : Value} {sl__law_cell : Array (Option Value)} {f__law_name : Addr} {oc__law_name : Value} {od__law_name : Option Addr} {kV__law_name : Value} {dc__law_name : Value} {pm__law_name : Value} {an__law_name : Option Addr} {cd__law_name : Value} {ct__law_name : Value} {sl__law_name : Array (Option Value)} {f__law_any_stamp : Addr} {oc__law_any_stamp : Value} {od__law_any_stamp : Option Addr} {kV__law_any_stamp : Value} {dc__law_any_stamp : Value} {pm__law_any_stamp : Value} {an__law_any_stamp : Option Addr} {cd__law_any_stamp : Value} {ct__law_any_stamp : Value} {sl__law_any_stamp : Array (Option Value)} {f__law_stamps : Addr} {oc__law_stamps : Value} {od__law_stamps : Option Addr} {kV__law_stamps : Value} {dc__law_stamps : Value} {pm__law_stamps : Value} {an__law_stamps : Option Addr} {cd__law_stamps : Value} {ct__law_stamps : Value} {sl__law_stamps : Array (Option Value)} {f__law_layer : Addr} {oc__law_layer : Value} {od__law_layer : Option Addr} {kV__law_layer : Value} {dc__law_layer : Value} {pm__law_layer : Value} {an__law_layer : Option Addr} {cd__law_layer : Value} {ct__law_layer : Value} {sl__law_layer : Array (Option Value)} {f_law : Addr} {oc_law : Value} {od_law : Option Addr} {kV_law : Value} {dc_law : Value} {pm_law : Value} {an_law : Option Addr} {cd_law : Value} {ct_law : Value} {sl_law : Array (Option Value)}
    (a_StampError : PySem.W.nsIn K mainGlobals "StampError" = some (some (.ref C_StampError)))
    (a_BadName : PySem.W.nsIn K mainGlobals "BadName" = some (some (.ref C_BadName)))
    (a_BadStamp : PySem.W.nsIn K mainGlobals "BadStamp" = some (some (.ref C_BadStamp)))
    (a_NameTaken : PySem.W.nsIn K mainGlobals "NameTaken" = some (some (.ref C_NameTaken)))
    (a_UnknownName : PySem.W.nsIn K mainGlobals "UnknownName" = some (some (.ref C_UnknownName)))
    (a_BadNote : PySem.W.nsIn K mainGlobals "BadNote" = some (some (.ref C_BadNote)))
    (a_BadClaimText : PySem.W.nsIn K mainGlobals "BadClaimText" = some (some (.ref C_BadClaimText)))
    (a_Stock : PySem.W.nsIn K mainGlobals "Stock" = some (some (.ref C_Stock)))
    (a_Box : PySem.W.nsIn K mainGlobals "Box" = some (some (.ref C_Box)))
    (b_ValueError : PySem.W.nsIn K mainGlobals "ValueError" = some none)
    (b_bool : PySem.W.nsIn K mainGlobals "bool" = some none)
    (b_enumerate : PySem.W.nsIn K mainGlobals "enumerate" = some none)
    (b_int : PySem.W.nsIn K mainGlobals "int" = some none)
    (b_isinstance : PySem.W.nsIn K mainGlobals "isinstance" = some none)
    (b_len : PySem.W.nsIn K mainGlobals "len" = some none)
    (b_list : PySem.W.nsIn K mainGlobals "list" = some none)
    (b_min : PySem.W.nsIn K mainGlobals "min" = some none)
    (b_range : PySem.W.nsIn K mainGlobals "range" = some none)
    (b_set : PySem.W.nsIn K mainGlobals "set" = some none)
    (b_str : PySem.W.nsIn K mainGlobals "str" = some none)
    (b_sum : PySem.W.nsIn K mainGlobals "sum" = some none)
    (b_tuple : PySem.W.nsIn K mainGlobals "tuple" = some none)
    (g_DIGITS : PySem.W.nsIn K mainGlobals "DIGITS" = some (some (.str "0123456789" t_DIGITS)))
    (g_FIGURES : PySem.W.nsIn K mainGlobals "FIGURES" = some (some (.str "0123456789" t_FIGURES)))
    (g_LETTERS : PySem.W.nsIn K mainGlobals "LETTERS" = some (some (.str "abcdefghijklmnopqrstuvwxyz" t_LETTERS)))
    (g_LONGEST_NAME : PySem.W.nsIn K mainGlobals "LONGEST_NAME" = some (some (.int 8 t_LONGEST_NAME)))
    (g_MOST_BOX_STAMPS : PySem.W.nsIn K mainGlobals "MOST_BOX_STAMPS" = some (some (.int 7 t_MOST_BOX_STAMPS)))
    (g_MOST_CELLS_layers : PySem.W.nsIn K mainGlobals "MOST_CELLS_layers" = some (some (.int 30 t_MOST_CELLS_layers)))
    (g_MOST_CELLS_stocknotes : PySem.W.nsIn K mainGlobals "MOST_CELLS_stocknotes" = some (some (.int 30 t_MOST_CELLS_stocknotes)))
    (g_MOST_PAIRS : PySem.W.nsIn K mainGlobals "MOST_PAIRS" = some (some (.int 4 t_MOST_PAIRS)))
    (g_MOST_STAMPS : PySem.W.nsIn K mainGlobals "MOST_STAMPS" = some (some (.int 24 t_MOST_STAMPS)))
    (g_PAIR : PySem.W.nsIn K mainGlobals "PAIR" = some (some (.str "pair" t_PAIR)))
    (g_SIGNS : PySem.W.nsIn K mainGlobals "SIGNS" = some (some (.str "-.abcdefghijklmnopqrstuvwxyz" t_SIGNS)))
    (g_STOCK_WORD : PySem.W.nsIn K mainGlobals "STOCK_WORD" = some (some (.str "stock " t_STOCK_WORD)))
    (xl_BadNote : K.lookup C_BadNote = some (excClassObj nm_BadNote q_BadNote C_BadNote N_BadNote bs_BadNote bm_BadNote true sn_BadNote sub_BadNote ab_BadNote col_BadNote dd_BadNote m0_BadNote m1_BadNote m2_BadNote m3_BadNote m5_BadNote "ValueError.__new__"))
    (rb_BadNote : PySem.HandSPX.refsVE bm_BadNote = true)
    (xsa_BadNote : PySem.W.findIn K (.ref C_BadNote) "__setattr__" = some (some (.builtin "object.__setattr__")))
    (xe_BadNote : PySem.W.subIn K (.ref C_BadNote) (.type "BaseException") = some true)
    (xt_BadNote : PySem.W.typeIn K (.ref C_BadNote) = some (.type "type"))
    (xk_BadNote : PySem.W.keepIn K (.ref C_BadNote) = true)
    (oa_BadNote : PySem.W.findIn K (.ref C_BadNote) "__class__" = some (some (.builtin "object.__class__")))
    (om_BadNote : PySem.W.mroIn K C_BadNote (.type "object") = some true)
    (ga_BadNote : PySem.W.findIn K (.ref C_BadNote) "__getattribute__" = some (some (.builtin "BaseException.__getattribute__")))
    (gg_BadNote : PySem.W.findIn K (.ref C_BadNote) "__getattr__" = some none)
    (xs_BadNote : PySem.W.subIn K (.ref C_BadNote) (.type "BaseException") = some true)
    (xh_BadNote : PySem.W.hasDictIn K C_BadNote = true)
    (pg_Stock : PySem.W.plainGet K C_Stock Str.empty = true)
    (hd_Stock : PySem.W.hasDictIn K C_Stock = true)
    (po_Stock : PySem.W.plainOver K C_Stock = true)
    (sa_Stock : PySem.W.findIn K (.ref C_Stock) "__setattr__" = some (some (.builtin "object.__setattr__")))
    (oa_Stock : PySem.W.findIn K (.ref C_Stock) "__class__" = some (some (.builtin "object.__class__")))
    (om_Stock : PySem.W.mroIn K C_Stock (.type "object") = some true)
    (tt_Stock : PySem.W.typeIn K (.ref C_Stock) = some (.type "type"))
    (on_Stock : PySem.W.subIn K (.type "NoneType") (.ref C_Stock) = some false)
    (pg_Box : PySem.W.plainGet K C_Box Str.empty = true)
    (hd_Box : PySem.W.hasDictIn K C_Box = true)
    (po_Box : PySem.W.plainOver K C_Box = true)
    (sa_Box : PySem.W.findIn K (.ref C_Box) "__setattr__" = some (some (.builtin "object.__setattr__")))
    (oa_Box : PySem.W.findIn K (.ref C_Box) "__class__" = some (some (.builtin "object.__class__")))
    (om_Box : PySem.W.mroIn K C_Box (.type "object") = some true)
    (tt_Box : PySem.W.typeIn K (.ref C_Box) = some (.type "type"))
    (on_Box : PySem.W.subIn K (.type "NoneType") (.ref C_Box) = some false)
    (on : PySem.W.specialIn K (.builtin "object.__class__") "__get__" = some (some (.builtin "getset_descriptor.__get__")))
    (ot : PySem.W.takesIn K (.builtin "object.__class__") = some true)
    (td_BadClaimText : PySem.W.hasDictIn K C_BadClaimText = true)
    (tq_BadClaimText : PySem.W.typeIn K (.ref C_BadClaimText) = some (.type "type"))
    (td_BadName : PySem.W.hasDictIn K C_BadName = true)
    (tq_BadName : PySem.W.typeIn K (.ref C_BadName) = some (.type "type"))
    (td_BadStamp : PySem.W.hasDictIn K C_BadStamp = true)
    (tq_BadStamp : PySem.W.typeIn K (.ref C_BadStamp) = some (.type "type"))
    (td_NameTaken : PySem.W.hasDictIn K C_NameTaken = true)
    (tq_NameTaken : PySem.W.typeIn K (.ref C_NameTaken) = some (.type "type"))
    (td_StampError : PySem.W.hasDictIn K C_StampError = true)
    (tq_StampError : PySem.W.typeIn K (.ref C_StampError) = some (.type "type"))
    (td_UnknownName : PySem.W.hasDictIn K C_UnknownName = true)
    (tq_UnknownName : PySem.W.typeIn K (.ref C_UnknownName) = some (.type "type"))
    (tb_StampError : PySem.W.subIn K (.ref C_StampError) (.type "BaseException") = some true)
    (sm_BadNote_StampError : PySem.W.subIn K (.ref C_BadNote) (.ref C_StampError) = some true)
    (sb_BadNote_BadClaimText : PySem.W.subIn K (.ref C_BadNote) (.ref C_BadClaimText) = some false)
    (ne_BadNote_BadClaimText : (Value.ref C_BadNote == Value.ref C_BadClaimText) = false)
    (sb_BadNote_BadName : PySem.W.subIn K (.ref C_BadNote) (.ref C_BadName) = some false)
    (ne_BadNote_BadName : (Value.ref C_BadNote == Value.ref C_BadName) = false)
    (sb_BadNote_BadStamp : PySem.W.subIn K (.ref C_BadNote) (.ref C_BadStamp) = some false)
    (ne_BadNote_BadStamp : (Value.ref C_BadNote == Value.ref C_BadStamp) = false)
    (sb_BadNote_NameTaken : PySem.W.subIn K (.ref C_BadNote) (.ref C_NameTaken) = some false)
    (ne_BadNote_NameTaken : (Value.ref C_BadNote == Value.ref C_NameTaken) = false)
    (sb_BadNote_UnknownName : PySem.W.subIn K (.ref C_BadNote) (.ref C_UnknownName) = some false)
    (ne_BadNote_UnknownName : (Value.ref C_BadNote == Value.ref C_UnknownName) = false)
    (sb_BadNote_ValueError : PySem.W.subIn K (.ref C_BadNote) (.type "ValueError") = some true)
    (n_BadNote_line : PySem.W.findIn K (.ref C_BadNote) "line" = some none)
    (n_Box_pairs : PySem.W.findIn K (.ref C_Box) "pairs" = some none)
    (n_Box_stock : PySem.W.findIn K (.ref C_Box) "stock" = some none)
    (n_Stock_layers : PySem.W.findIn K (.ref C_Stock) "layers" = some none)
    (n_Stock_numbers : PySem.W.findIn K (.ref C_Stock) "numbers" = some none)
    (n_Stock_size : PySem.W.findIn K (.ref C_Stock) "size" = some none)
    (n_Stock_stamps : PySem.W.findIn K (.ref C_Stock) "stamps" = some none)
    (a_number_in : PySem.W.nsIn K mainGlobals "number_in" = some (some (.ref f_number_in)))
    (l_number_in : K.lookup f_number_in = some ⟨oc_number_in, od_number_in, .func (PySem.W.fnOf "number_in" "number_in" (defArgs s_number_in) (defBody s_number_in) (defScope s_number_in) .none kV_number_in dc_number_in pm_number_in an_number_in cd_number_in ct_number_in), sl_number_in⟩)
    (c_number_in : PySem.W.codeIn K cd_number_in "number_in" = true)
    (k_number_in : PySem.W.keepIn K (.ref f_number_in) = true)
    (a_size_in : PySem.W.nsIn K mainGlobals "size_in" = some (some (.ref f_size_in)))
    (l_size_in : K.lookup f_size_in = some ⟨oc_size_in, od_size_in, .func (PySem.W.fnOf "size_in" "size_in" (defArgs s_size_in) (defBody s_size_in) (defScope s_size_in) .none kV_size_in dc_size_in pm_size_in an_size_in cd_size_in ct_size_in), sl_size_in⟩)
    (c_size_in : PySem.W.codeIn K cd_size_in "size_in" = true)
    (k_size_in : PySem.W.keepIn K (.ref f_size_in) = true)
    (a_BadNote___init__ : PySem.W.findIn K (.ref C_BadNote) "__init__" = some (some (.ref f_BadNote___init__)))
    (ty_BadNote___init__ : PySem.W.typeIn K (.ref f_BadNote___init__) = some (.type "function"))
    (l_BadNote___init__ : K.lookup f_BadNote___init__ = some ⟨oc_BadNote___init__, od_BadNote___init__, .func (PySem.W.fnOf "__init__" "BadNote.__init__" (defArgs s_BadNote___init__) (defBody s_BadNote___init__) (defScope s_BadNote___init__) .none kV_BadNote___init__ dc_BadNote___init__ pm_BadNote___init__ an_BadNote___init__ cd_BadNote___init__ ct_BadNote___init__), sl_BadNote___init__⟩)
    (c_BadNote___init__ : PySem.W.codeIn K cd_BadNote___init__ "BadNote.__init__" = true)
    (k_BadNote___init__ : PySem.W.keepIn K (.ref f_BadNote___init__) = true)
    (a_is_name : PySem.W.nsIn K mainGlobals "is_name" = some (some (.ref f_is_name)))
    (l_is_name : K.lookup f_is_name = some ⟨oc_is_name, od_is_name, .func (PySem.W.fnOf "is_name" "is_name" (defArgs s_is_name) (defBody s_is_name) (defScope s_is_name) .none kV_is_name dc_is_name pm_is_name an_is_name cd_is_name ct_is_name), sl_is_name⟩)
    (c_is_name : PySem.W.codeIn K cd_is_name "is_name" = true)
    (k_is_name : PySem.W.keepIn K (.ref f_is_name) = true)
    (a_is_layer : PySem.W.nsIn K mainGlobals "is_layer" = some (some (.ref f_is_layer)))
    (l_is_layer : K.lookup f_is_layer = some ⟨oc_is_layer, od_is_layer, .func (PySem.W.fnOf "is_layer" "is_layer" (defArgs s_is_layer) (defBody s_is_layer) (defScope s_is_layer) .none kV_is_layer dc_is_layer pm_is_layer an_is_layer cd_is_layer ct_is_layer), sl_is_layer⟩)
    (c_is_layer : PySem.W.codeIn K cd_is_layer "is_layer" = true)
    (k_is_layer : PySem.W.keepIn K (.ref f_is_layer) = true)
    (a_empty_layer : PySem.W.nsIn K mainGlobals "empty_layer" = some (some (.ref f_empty_layer)))
    (l_empty_layer : K.lookup f_empty_layer = some ⟨oc_empty_layer, od_empty_layer, .func (PySem.W.fnOf "empty_layer" "empty_layer" (defArgs s_empty_layer) (defBody s_empty_layer) (defScope s_empty_layer) .none kV_empty_layer dc_empty_layer pm_empty_layer an_empty_layer cd_empty_layer ct_empty_layer), sl_empty_layer⟩)
    (c_empty_layer : PySem.W.codeIn K cd_empty_layer "empty_layer" = true)
    (k_empty_layer : PySem.W.keepIn K (.ref f_empty_layer) = true)
    (a_stamp_in : PySem.W.nsIn K mainGlobals "stamp_in" = some (some (.ref f_stamp_in)))
    (l_stamp_in : K.lookup f_stamp_in = some ⟨oc_stamp_in, od_stamp_in, .func (PySem.W.fnOf "stamp_in" "stamp_in" (defArgs s_stamp_in) (defBody s_stamp_in) (defScope s_stamp_in) .none kV_stamp_in dc_stamp_in pm_stamp_in an_stamp_in cd_stamp_in ct_stamp_in), sl_stamp_in⟩)
    (c_stamp_in : PySem.W.codeIn K cd_stamp_in "stamp_in" = true)
    (k_stamp_in : PySem.W.keepIn K (.ref f_stamp_in) = true)
    (a_frozen : PySem.W.nsIn K mainGlobals "frozen" = some (some (.ref f_frozen)))
    (l_frozen : K.lookup f_frozen = some ⟨oc_frozen, od_frozen, .func (PySem.W.fnOf "frozen" "frozen" (defArgs s_frozen) (defBody s_frozen) (defScope s_frozen) .none kV_frozen dc_frozen pm_frozen an_frozen cd_frozen ct_frozen), sl_frozen⟩)
    (c_frozen : PySem.W.codeIn K cd_frozen "frozen" = true)
    (k_frozen : PySem.W.keepIn K (.ref f_frozen) = true)
    (a_is_stamp : PySem.W.nsIn K mainGlobals "is_stamp" = some (some (.ref f_is_stamp)))
    (l_is_stamp : K.lookup f_is_stamp = some ⟨oc_is_stamp, od_is_stamp, .func (PySem.W.fnOf "is_stamp" "is_stamp" (defArgs s_is_stamp) (defBody s_is_stamp) (defScope s_is_stamp) .none kV_is_stamp dc_is_stamp pm_is_stamp an_is_stamp cd_is_stamp ct_is_stamp), sl_is_stamp⟩)
    (c_is_stamp : PySem.W.codeIn K cd_is_stamp "is_stamp" = true)
    (k_is_stamp : PySem.W.keepIn K (.ref f_is_stamp) = true)
    (a_Stock___init__ : PySem.W.findIn K (.ref C_Stock) "__init__" = some (some (.ref f_Stock___init__)))
    (i_Stock___init__ : PySem.W.isFn K (.ref f_Stock___init__) = true)
    (mk_Stock___init__ : PySem.W.makesIn K C_Stock = true)
    (kc_Stock___init__ : PySem.W.keepIn K (.ref C_Stock) = true)
    (l_Stock___init__ : K.lookup f_Stock___init__ = some ⟨oc_Stock___init__, od_Stock___init__, .func (PySem.W.fnOf "__init__" "Stock.__init__" (defArgs s_Stock___init__) (defBody s_Stock___init__) (defScope s_Stock___init__) .none kV_Stock___init__ dc_Stock___init__ pm_Stock___init__ an_Stock___init__ cd_Stock___init__ ct_Stock___init__), sl_Stock___init__⟩)
    (c_Stock___init__ : PySem.W.codeIn K cd_Stock___init__ "Stock.__init__" = true)
    (k_Stock___init__ : PySem.W.keepIn K (.ref f_Stock___init__) = true)
    (a_stock_in : PySem.W.nsIn K mainGlobals "stock_in" = some (some (.ref f_stock_in)))
    (l_stock_in : K.lookup f_stock_in = some ⟨oc_stock_in, od_stock_in, .func (PySem.W.fnOf "stock_in" "stock_in" (defArgs s_stock_in) (defBody s_stock_in) (defScope s_stock_in) .none kV_stock_in dc_stock_in pm_stock_in an_stock_in cd_stock_in ct_stock_in), sl_stock_in⟩)
    (c_stock_in : PySem.W.codeIn K cd_stock_in "stock_in" = true)
    (k_stock_in : PySem.W.keepIn K (.ref f_stock_in) = true)
    (a_parse_stock : PySem.W.nsIn K mainGlobals "parse_stock" = some (some (.ref f_parse_stock)))
    (l_parse_stock : K.lookup f_parse_stock = some ⟨oc_parse_stock, od_parse_stock, .func (PySem.W.fnOf "parse_stock" "parse_stock" (defArgs s_parse_stock) (defBody s_parse_stock) (defScope s_parse_stock) .none kV_parse_stock dc_parse_stock pm_parse_stock an_parse_stock cd_parse_stock ct_parse_stock), sl_parse_stock⟩)
    (c_parse_stock : PySem.W.codeIn K cd_parse_stock "parse_stock" = true)
    (k_parse_stock : PySem.W.keepIn K (.ref f_parse_stock) = true)
    (a_is_pair_line : PySem.W.nsIn K mainGlobals "is_pair_line" = some (some (.ref f_is_pair_line)))
    (l_is_pair_line : K.lookup f_is_pair_line = some ⟨oc_is_pair_line, od_is_pair_line, .func (PySem.W.fnOf "is_pair_line" "is_pair_line" (defArgs s_is_pair_line) (defBody s_is_pair_line) (defScope s_is_pair_line) .none kV_is_pair_line dc_is_pair_line pm_is_pair_line an_is_pair_line cd_is_pair_line ct_is_pair_line), sl_is_pair_line⟩)
    (c_is_pair_line : PySem.W.codeIn K cd_is_pair_line "is_pair_line" = true)
    (k_is_pair_line : PySem.W.keepIn K (.ref f_is_pair_line) = true)
    (a_first_pair_line : PySem.W.nsIn K mainGlobals "first_pair_line" = some (some (.ref f_first_pair_line)))
    (l_first_pair_line : K.lookup f_first_pair_line = some ⟨oc_first_pair_line, od_first_pair_line, .func (PySem.W.fnOf "first_pair_line" "first_pair_line" (defArgs s_first_pair_line) (defBody s_first_pair_line) (defScope s_first_pair_line) .none kV_first_pair_line dc_first_pair_line pm_first_pair_line an_first_pair_line cd_first_pair_line ct_first_pair_line), sl_first_pair_line⟩)
    (c_first_pair_line : PySem.W.codeIn K cd_first_pair_line "first_pair_line" = true)
    (k_first_pair_line : PySem.W.keepIn K (.ref f_first_pair_line) = true)
    (a_is_layer_of : PySem.W.nsIn K mainGlobals "is_layer_of" = some (some (.ref f_is_layer_of)))
    (l_is_layer_of : K.lookup f_is_layer_of = some ⟨oc_is_layer_of, od_is_layer_of, .func (PySem.W.fnOf "is_layer_of" "is_layer_of" (defArgs s_is_layer_of) (defBody s_is_layer_of) (defScope s_is_layer_of) .none kV_is_layer_of dc_is_layer_of pm_is_layer_of an_is_layer_of cd_is_layer_of ct_is_layer_of), sl_is_layer_of⟩)
    (c_is_layer_of : PySem.W.codeIn K cd_is_layer_of "is_layer_of" = true)
    (k_is_layer_of : PySem.W.keepIn K (.ref f_is_layer_of) = true)
    (a_pair_in : PySem.W.nsIn K mainGlobals "pair_in" = some (some (.ref f_pair_in)))
    (l_pair_in : K.lookup f_pair_in = some ⟨oc_pair_in, od_pair_in, .func (PySem.W.fnOf "pair_in" "pair_in" (defArgs s_pair_in) (defBody s_pair_in) (defScope s_pair_in) .none kV_pair_in dc_pair_in pm_pair_in an_pair_in cd_pair_in ct_pair_in), sl_pair_in⟩)
    (c_pair_in : PySem.W.codeIn K cd_pair_in "pair_in" = true)
    (k_pair_in : PySem.W.keepIn K (.ref f_pair_in) = true)
    (a_Box___init__ : PySem.W.findIn K (.ref C_Box) "__init__" = some (some (.ref f_Box___init__)))
    (i_Box___init__ : PySem.W.isFn K (.ref f_Box___init__) = true)
    (mk_Box___init__ : PySem.W.makesIn K C_Box = true)
    (kc_Box___init__ : PySem.W.keepIn K (.ref C_Box) = true)
    (l_Box___init__ : K.lookup f_Box___init__ = some ⟨oc_Box___init__, od_Box___init__, .func (PySem.W.fnOf "__init__" "Box.__init__" (defArgs s_Box___init__) (defBody s_Box___init__) (defScope s_Box___init__) .none kV_Box___init__ dc_Box___init__ pm_Box___init__ an_Box___init__ cd_Box___init__ ct_Box___init__), sl_Box___init__⟩)
    (c_Box___init__ : PySem.W.codeIn K cd_Box___init__ "Box.__init__" = true)
    (k_Box___init__ : PySem.W.keepIn K (.ref f_Box___init__) = true)
    (a_parse_box : PySem.W.nsIn K mainGlobals "parse_box" = some (some (.ref f_parse_box)))
    (l_parse_box : K.lookup f_parse_box = some ⟨oc_parse_box, od_parse_box, .func (PySem.W.fnOf "parse_box" "parse_box" (defArgs s_parse_box) (defBody s_parse_box) (defScope s_parse_box) .none kV_parse_box dc_parse_box pm_parse_box an_parse_box cd_parse_box ct_parse_box), sl_parse_box⟩)
    (c_parse_box : PySem.W.codeIn K cd_parse_box "parse_box" = true)
    (k_parse_box : PySem.W.keepIn K (.ref f_parse_box) = true)
    (a__law_is_layer : PySem.W.nsIn K mainGlobals "_law_is_layer" = some (some (.ref f__law_is_layer)))
    (l__law_is_layer : K.lookup f__law_is_layer = some ⟨oc__law_is_layer, od__law_is_layer, .func (PySem.W.fnOf "_law_is_layer" "_law_is_layer" (defArgs s__law_is_layer) (defBody s__law_is_layer) (defScope s__law_is_layer) .none kV__law_is_layer dc__law_is_layer pm__law_is_layer an__law_is_layer cd__law_is_layer ct__law_is_layer), sl__law_is_layer⟩)
    (c__law_is_layer : PySem.W.codeIn K cd__law_is_layer "_law_is_layer" = true)
    (k__law_is_layer : PySem.W.keepIn K (.ref f__law_is_layer) = true)
    (a__law_is_name : PySem.W.nsIn K mainGlobals "_law_is_name" = some (some (.ref f__law_is_name)))
    (l__law_is_name : K.lookup f__law_is_name = some ⟨oc__law_is_name, od__law_is_name, .func (PySem.W.fnOf "_law_is_name" "_law_is_name" (defArgs s__law_is_name) (defBody s__law_is_name) (defScope s__law_is_name) .none kV__law_is_name dc__law_is_name pm__law_is_name an__law_is_name cd__law_is_name ct__law_is_name), sl__law_is_name⟩)
    (c__law_is_name : PySem.W.codeIn K cd__law_is_name "_law_is_name" = true)
    (k__law_is_name : PySem.W.keepIn K (.ref f__law_is_name) = true)
    (a__law_read : PySem.W.nsIn K mainGlobals "_law_read" = some (some (.ref f__law_read)))
    (l__law_read : K.lookup f__law_read = some ⟨oc__law_read, od__law_read, .func (PySem.W.fnOf "_law_read" "_law_read" (defArgs s__law_read) (defBody s__law_read) (defScope s__law_read) .none kV__law_read dc__law_read pm__law_read an__law_read cd__law_read ct__law_read), sl__law_read⟩)
    (c__law_read : PySem.W.codeIn K cd__law_read "_law_read" = true)
    (k__law_read : PySem.W.keepIn K (.ref f__law_read) = true)
    (a__law_told : PySem.W.nsIn K mainGlobals "_law_told" = some (some (.ref f__law_told)))
    (l__law_told : K.lookup f__law_told = some ⟨oc__law_told, od__law_told, .func (PySem.W.fnOf "_law_told" "_law_told" (defArgs s__law_told) (defBody s__law_told) (defScope s__law_told) .none kV__law_told dc__law_told pm__law_told an__law_told cd__law_told ct__law_told), sl__law_told⟩)
    (c__law_told : PySem.W.codeIn K cd__law_told "_law_told" = true)
    (k__law_told : PySem.W.keepIn K (.ref f__law_told) = true)
    (a__law_whole : PySem.W.nsIn K mainGlobals "_law_whole" = some (some (.ref f__law_whole)))
    (l__law_whole : K.lookup f__law_whole = some ⟨oc__law_whole, od__law_whole, .func (PySem.W.fnOf "_law_whole" "_law_whole" (defArgs s__law_whole) (defBody s__law_whole) (defScope s__law_whole) .none kV__law_whole dc__law_whole pm__law_whole an__law_whole cd__law_whole ct__law_whole), sl__law_whole⟩)
    (c__law_whole : PySem.W.codeIn K cd__law_whole "_law_whole" = true)
    (k__law_whole : PySem.W.keepIn K (.ref f__law_whole) = true)
    (a__law_alike : PySem.W.nsIn K mainGlobals "_law_alike" = some (some (.ref f__law_alike)))
    (l__law_alike : K.lookup f__law_alike = some ⟨oc__law_alike, od__law_alike, .func (PySem.W.fnOf "_law_alike" "_law_alike" (defArgs s__law_alike) (defBody s__law_alike) (defScope s__law_alike) .none kV__law_alike dc__law_alike pm__law_alike an__law_alike cd__law_alike ct__law_alike), sl__law_alike⟩)
    (c__law_alike : PySem.W.codeIn K cd__law_alike "_law_alike" = true)
    (k__law_alike : PySem.W.keepIn K (.ref f__law_alike) = true)
    (a_Stock_names : PySem.W.findIn K (.ref C_Stock) "names" = some (some (.ref p_Stock_names)))
    (pq_Stock_names : PySem.W.specialIn K (.ref p_Stock_names) "__get__" = some (some (.builtin "property.__get__")))
    (pt_Stock_names : PySem.W.takesIn K (.ref p_Stock_names) = some true)
    (pr_Stock_names : PySem.W.recIn K p_Stock_names "property" = some (.ref f_Stock_names :: rs_Stock_names))
    (l_Stock_names : K.lookup f_Stock_names = some ⟨oc_Stock_names, od_Stock_names, .func (PySem.W.fnOf "names" "Stock.names" (defArgs s_Stock_names) (defBody s_Stock_names) (defScope s_Stock_names) .none kV_Stock_names dc_Stock_names pm_Stock_names an_Stock_names cd_Stock_names ct_Stock_names), sl_Stock_names⟩)
    (c_Stock_names : PySem.W.codeIn K cd_Stock_names "Stock.names" = true)
    (k_Stock_names : PySem.W.keepIn K (.ref f_Stock_names) = true)
    (a_Stock___eq__ : PySem.W.findIn K (.ref C_Stock) "__eq__" = some (some (.ref f_Stock___eq__)))
    (i_Stock___eq__ : PySem.W.isFn K (.ref f_Stock___eq__) = true)
    (l_Stock___eq__ : K.lookup f_Stock___eq__ = some ⟨oc_Stock___eq__, od_Stock___eq__, .func (PySem.W.fnOf "__eq__" "Stock.__eq__" (defArgs s_Stock___eq__) (defBody s_Stock___eq__) (defScope s_Stock___eq__) .none kV_Stock___eq__ dc_Stock___eq__ pm_Stock___eq__ an_Stock___eq__ cd_Stock___eq__ ct_Stock___eq__), sl_Stock___eq__⟩)
    (c_Stock___eq__ : PySem.W.codeIn K cd_Stock___eq__ "Stock.__eq__" = true)
    (k_Stock___eq__ : PySem.W.keepIn K (.ref f_Stock___eq__) = true)
    (a__law_is_stock : PySem.W.nsIn K mainGlobals "_law_is_stock" = some (some (.ref f__law_is_stock)))
    (l__law_is_stock : K.lookup f__law_is_stock = some ⟨oc__law_is_stock, od__law_is_stock, .func (PySem.W.fnOf "_law_is_stock" "_law_is_stock" (defArgs s__law_is_stock) (defBody s__law_is_stock) (defScope s__law_is_stock) .none kV__law_is_stock dc__law_is_stock pm__law_is_stock an__law_is_stock cd__law_is_stock ct__law_is_stock), sl__law_is_stock⟩)
    (c__law_is_stock : PySem.W.codeIn K cd__law_is_stock "_law_is_stock" = true)
    (k__law_is_stock : PySem.W.keepIn K (.ref f__law_is_stock) = true)
    (a_stock_lines : PySem.W.nsIn K mainGlobals "stock_lines" = some (some (.ref f_stock_lines)))
    (l_stock_lines : K.lookup f_stock_lines = some ⟨oc_stock_lines, od_stock_lines, .func (PySem.W.fnOf "stock_lines" "stock_lines" (defArgs s_stock_lines) (defBody s_stock_lines) (defScope s_stock_lines) .none kV_stock_lines dc_stock_lines pm_stock_lines an_stock_lines cd_stock_lines ct_stock_lines), sl_stock_lines⟩)
    (c_stock_lines : PySem.W.codeIn K cd_stock_lines "stock_lines" = true)
    (k_stock_lines : PySem.W.keepIn K (.ref f_stock_lines) = true)
    (a_format_stock : PySem.W.nsIn K mainGlobals "format_stock" = some (some (.ref f_format_stock)))
    (l_format_stock : K.lookup f_format_stock = some ⟨oc_format_stock, od_format_stock, .func (PySem.W.fnOf "format_stock" "format_stock" (defArgs s_format_stock) (defBody s_format_stock) (defScope s_format_stock) .none kV_format_stock dc_format_stock pm_format_stock an_format_stock cd_format_stock ct_format_stock), sl_format_stock⟩)
    (c_format_stock : PySem.W.codeIn K cd_format_stock "format_stock" = true)
    (k_format_stock : PySem.W.keepIn K (.ref f_format_stock) = true)
    (a__law_stock_asked : PySem.W.nsIn K mainGlobals "_law_stock_asked" = some (some (.ref f__law_stock_asked)))
    (l__law_stock_asked : K.lookup f__law_stock_asked = some ⟨oc__law_stock_asked, od__law_stock_asked, .func (PySem.W.fnOf "_law_stock_asked" "_law_stock_asked" (defArgs s__law_stock_asked) (defBody s__law_stock_asked) (defScope s__law_stock_asked) .none kV__law_stock_asked dc__law_stock_asked pm__law_stock_asked an__law_stock_asked cd__law_stock_asked ct__law_stock_asked), sl__law_stock_asked⟩)
    (c__law_stock_asked : PySem.W.codeIn K cd__law_stock_asked "_law_stock_asked" = true)
    (k__law_stock_asked : PySem.W.keepIn K (.ref f__law_stock_asked) = true)
    (a_Box___len__ : PySem.W.findIn K (.ref C_Box) "__len__" = some (some (.ref f_Box___len__)))
    (i_Box___len__ : PySem.W.isFn K (.ref f_Box___len__) = true)
    (l_Box___len__ : K.lookup f_Box___len__ = some ⟨oc_Box___len__, od_Box___len__, .func (PySem.W.fnOf "__len__" "Box.__len__" (defArgs s_Box___len__) (defBody s_Box___len__) (defScope s_Box___len__) .none kV_Box___len__ dc_Box___len__ pm_Box___len__ an_Box___len__ cd_Box___len__ ct_Box___len__), sl_Box___len__⟩)
    (c_Box___len__ : PySem.W.codeIn K cd_Box___len__ "Box.__len__" = true)
    (k_Box___len__ : PySem.W.keepIn K (.ref f_Box___len__) = true)
    (a_Box___eq__ : PySem.W.findIn K (.ref C_Box) "__eq__" = some (some (.ref f_Box___eq__)))
    (i_Box___eq__ : PySem.W.isFn K (.ref f_Box___eq__) = true)
    (l_Box___eq__ : K.lookup f_Box___eq__ = some ⟨oc_Box___eq__, od_Box___eq__, .func (PySem.W.fnOf "__eq__" "Box.__eq__" (defArgs s_Box___eq__) (defBody s_Box___eq__) (defScope s_Box___eq__) .none kV_Box___eq__ dc_Box___eq__ pm_Box___eq__ an_Box___eq__ cd_Box___eq__ ct_Box___eq__), sl_Box___eq__⟩)
    (c_Box___eq__ : PySem.W.codeIn K cd_Box___eq__ "Box.__eq__" = true)
    (k_Box___eq__ : PySem.W.keepIn K (.ref f_Box___eq__) = true)
    (a_format_box : PySem.W.nsIn K mainGlobals "format_box" = some (some (.ref f_format_box)))
    (l_format_box : K.lookup f_format_box = some ⟨oc_format_box, od_format_box, .func (PySem.W.fnOf "format_box" "format_box" (defArgs s_format_box) (defBody s_format_box) (defScope s_format_box) .none kV_format_box dc_format_box pm_format_box an_format_box cd_format_box ct_format_box), sl_format_box⟩)
    (c_format_box : PySem.W.codeIn K cd_format_box "format_box" = true)
    (k_format_box : PySem.W.keepIn K (.ref f_format_box) = true)
    (a__law_asked : PySem.W.nsIn K mainGlobals "_law_asked" = some (some (.ref f__law_asked)))
    (l__law_asked : K.lookup f__law_asked = some ⟨oc__law_asked, od__law_asked, .func (PySem.W.fnOf "_law_asked" "_law_asked" (defArgs s__law_asked) (defBody s__law_asked) (defScope s__law_asked) .none kV__law_asked dc__law_asked pm__law_asked an__law_asked cd__law_asked ct__law_asked), sl__law_asked⟩)
    (c__law_asked : PySem.W.codeIn K cd__law_asked "_law_asked" = true)
    (k__law_asked : PySem.W.keepIn K (.ref f__law_asked) = true)
    (a__law_fresh : PySem.W.nsIn K mainGlobals "_law_fresh" = some (some (.ref f__law_fresh)))
    (l__law_fresh : K.lookup f__law_fresh = some ⟨oc__law_fresh, od__law_fresh, .func (PySem.W.fnOf "_law_fresh" "_law_fresh" (defArgs s__law_fresh) (defBody s__law_fresh) (defScope s__law_fresh) .none kV__law_fresh dc__law_fresh pm__law_fresh an__law_fresh cd__law_fresh ct__law_fresh), sl__law_fresh⟩)
    (c__law_fresh : PySem.W.codeIn K cd__law_fresh "_law_fresh" = true)
    (k__law_fresh : PySem.W.keepIn K (.ref f__law_fresh) = true)
    (a__law_full : PySem.W.nsIn K mainGlobals "_law_full" = some (some (.ref f__law_full)))
    (l__law_full : K.lookup f__law_full = some ⟨oc__law_full, od__law_full, .func (PySem.W.fnOf "_law_full" "_law_full" (defArgs s__law_full) (defBody s__law_full) (defScope s__law_full) .none kV__law_full dc__law_full pm__law_full an__law_full cd__law_full ct__law_full), sl__law_full⟩)
    (c__law_full : PySem.W.codeIn K cd__law_full "_law_full" = true)
    (k__law_full : PySem.W.keepIn K (.ref f__law_full) = true)
    (a__law_notes : PySem.W.nsIn K mainGlobals "_law_notes" = some (some (.ref f__law_notes)))
    (l__law_notes : K.lookup f__law_notes = some ⟨oc__law_notes, od__law_notes, .func (PySem.W.fnOf "_law_notes" "_law_notes" (defArgs s__law_notes) (defBody s__law_notes) (defScope s__law_notes) .none kV__law_notes dc__law_notes pm__law_notes an__law_notes cd__law_notes ct__law_notes), sl__law_notes⟩)
    (c__law_notes : PySem.W.codeIn K cd__law_notes "_law_notes" = true)
    (k__law_notes : PySem.W.keepIn K (.ref f__law_notes) = true)
    (a__law_further : PySem.W.nsIn K mainGlobals "_law_further" = some (some (.ref f__law_further)))
    (l__law_further : K.lookup f__law_further = some ⟨oc__law_further, od__law_further, .func (PySem.W.fnOf "_law_further" "_law_further" (defArgs s__law_further) (defBody s__law_further) (defScope s__law_further) .none kV__law_further dc__law_further pm__law_further an__law_further cd__law_further ct__law_further), sl__law_further⟩)
    (c__law_further : PySem.W.codeIn K cd__law_further "_law_further" = true)
    (k__law_further : PySem.W.keepIn K (.ref f__law_further) = true)
    (a__law_firsts : PySem.W.nsIn K mainGlobals "_law_firsts" = some (some (.ref f__law_firsts)))
    (l__law_firsts : K.lookup f__law_firsts = some ⟨oc__law_firsts, od__law_firsts, .func (PySem.W.fnOf "_law_firsts" "_law_firsts" (defArgs s__law_firsts) (defBody s__law_firsts) (defScope s__law_firsts) .none kV__law_firsts dc__law_firsts pm__law_firsts an__law_firsts cd__law_firsts ct__law_firsts), sl__law_firsts⟩)
    (c__law_firsts : PySem.W.codeIn K cd__law_firsts "_law_firsts" = true)
    (k__law_firsts : PySem.W.keepIn K (.ref f__law_firsts) = true)
    (a__law_digits : PySem.W.nsIn K mainGlobals "_law_digits" = some (some (.ref f__law_digits)))
    (l__law_digits : K.lookup f__law_digits = some ⟨oc__law_digits, od__law_digits, .func (PySem.W.fnOf "_law_digits" "_law_digits" (defArgs s__law_digits) (defBody s__law_digits) (defScope s__law_digits) .none kV__law_digits dc__law_digits pm__law_digits an__law_digits cd__law_digits ct__law_digits), sl__law_digits⟩)
    (c__law_digits : PySem.W.codeIn K cd__law_digits "_law_digits" = true)
    (k__law_digits : PySem.W.keepIn K (.ref f__law_digits) = true)
    (a__law_signs : PySem.W.nsIn K mainGlobals "_law_signs" = some (some (.ref f__law_signs)))
    (l__law_signs : K.lookup f__law_signs = some ⟨oc__law_signs, od__law_signs, .func (PySem.W.fnOf "_law_signs" "_law_signs" (defArgs s__law_signs) (defBody s__law_signs) (defScope s__law_signs) .none kV__law_signs dc__law_signs pm__law_signs an__law_signs cd__law_signs ct__law_signs), sl__law_signs⟩)
    (c__law_signs : PySem.W.codeIn K cd__law_signs "_law_signs" = true)
    (k__law_signs : PySem.W.keepIn K (.ref f__law_signs) = true)
    (a__law_free_text : PySem.W.nsIn K mainGlobals "_law_free_text" = some (some (.ref f__law_free_text)))
    (l__law_free_text : K.lookup f__law_free_text = some ⟨oc__law_free_text, od__law_free_text, .func (PySem.W.fnOf "_law_free_text" "_law_free_text" (defArgs s__law_free_text) (defBody s__law_free_text) (defScope s__law_free_text) .none kV__law_free_text dc__law_free_text pm__law_free_text an__law_free_text cd__law_free_text ct__law_free_text), sl__law_free_text⟩)
    (c__law_free_text : PySem.W.codeIn K cd__law_free_text "_law_free_text" = true)
    (k__law_free_text : PySem.W.keepIn K (.ref f__law_free_text) = true)
    (a__law_sign : PySem.W.nsIn K mainGlobals "_law_sign" = some (some (.ref f__law_sign)))
    (l__law_sign : K.lookup f__law_sign = some ⟨oc__law_sign, od__law_sign, .func (PySem.W.fnOf "_law_sign" "_law_sign" (defArgs s__law_sign) (defBody s__law_sign) (defScope s__law_sign) .none kV__law_sign dc__law_sign pm__law_sign an__law_sign cd__law_sign ct__law_sign), sl__law_sign⟩)
    (c__law_sign : PySem.W.codeIn K cd__law_sign "_law_sign" = true)
    (k__law_sign : PySem.W.keepIn K (.ref f__law_sign) = true)
    (a__law_spoilt : PySem.W.nsIn K mainGlobals "_law_spoilt" = some (some (.ref f__law_spoilt)))
    (l__law_spoilt : K.lookup f__law_spoilt = some ⟨oc__law_spoilt, od__law_spoilt, .func (PySem.W.fnOf "_law_spoilt" "_law_spoilt" (defArgs s__law_spoilt) (defBody s__law_spoilt) (defScope s__law_spoilt) .none kV__law_spoilt dc__law_spoilt pm__law_spoilt an__law_spoilt cd__law_spoilt ct__law_spoilt), sl__law_spoilt⟩)
    (c__law_spoilt : PySem.W.codeIn K cd__law_spoilt "_law_spoilt" = true)
    (k__law_spoilt : PySem.W.keepIn K (.ref f__law_spoilt) = true)
    (a__law_cell : PySem.W.nsIn K mainGlobals "_law_cell" = some (some (.ref f__law_cell)))
    (l__law_cell : K.lookup f__law_cell = some ⟨oc__law_cell, od__law_cell, .func (PySem.W.fnOf "_law_cell" "_law_cell" (defArgs s__law_cell) (defBody s__law_cell) (defScope s__law_cell) .none kV__law_cell dc__law_cell pm__law_cell an__law_cell cd__law_cell ct__law_cell), sl__law_cell⟩)
    (c__law_cell : PySem.W.codeIn K cd__law_cell "_law_cell" = true)
    (k__law_cell : PySem.W.keepIn K (.ref f__law_cell) = true)
    (a__law_name : PySem.W.nsIn K mainGlobals "_law_name" = some (some (.ref f__law_name)))
    (l__law_name : K.lookup f__law_name = some ⟨oc__law_name, od__law_name, .func (PySem.W.fnOf "_law_name" "_law_name" (defArgs s__law_name) (defBody s__law_name) (defScope s__law_name) .none kV__law_name dc__law_name pm__law_name an__law_name cd__law_name ct__law_name), sl__law_name⟩)
    (c__law_name : PySem.W.codeIn K cd__law_name "_law_name" = true)
    (k__law_name : PySem.W.keepIn K (.ref f__law_name) = true)
    (a__law_any_stamp : PySem.W.nsIn K mainGlobals "_law_any_stamp" = some (some (.ref f__law_any_stamp)))
    (l__law_any_stamp : K.lookup f__law_any_stamp = some ⟨oc__law_any_stamp, od__law_any_stamp, .func (PySem.W.fnOf "_law_any_stamp" "_law_any_stamp" (defArgs s__law_any_stamp) (defBody s__law_any_stamp) (defScope s__law_any_stamp) .none kV__law_any_stamp dc__law_any_stamp pm__law_any_stamp an__law_any_stamp cd__law_any_stamp ct__law_any_stamp), sl__law_any_stamp⟩)
    (c__law_any_stamp : PySem.W.codeIn K cd__law_any_stamp "_law_any_stamp" = true)
    (k__law_any_stamp : PySem.W.keepIn K (.ref f__law_any_stamp) = true)
    (a__law_stamps : PySem.W.nsIn K mainGlobals "_law_stamps" = some (some (.ref f__law_stamps)))
    (l__law_stamps : K.lookup f__law_stamps = some ⟨oc__law_stamps, od__law_stamps, .func (PySem.W.fnOf "_law_stamps" "_law_stamps" (defArgs s__law_stamps) (defBody s__law_stamps) (defScope s__law_stamps) .none kV__law_stamps dc__law_stamps pm__law_stamps an__law_stamps cd__law_stamps ct__law_stamps), sl__law_stamps⟩)
    (c__law_stamps : PySem.W.codeIn K cd__law_stamps "_law_stamps" = true)
    (k__law_stamps : PySem.W.keepIn K (.ref f__law_stamps) = true)
    (a__law_layer : PySem.W.nsIn K mainGlobals "_law_layer" = some (some (.ref f__law_layer)))
    (l__law_layer : K.lookup f__law_layer = some ⟨oc__law_layer, od__law_layer, .func (PySem.W.fnOf "_law_layer" "_law_layer" (defArgs s__law_layer) (defBody s__law_layer) (defScope s__law_layer) .none kV__law_layer dc__law_layer pm__law_layer an__law_layer cd__law_layer ct__law_layer), sl__law_layer⟩)
    (c__law_layer : PySem.W.codeIn K cd__law_layer "_law_layer" = true)
    (k__law_layer : PySem.W.keepIn K (.ref f__law_layer) = true)
    (a_law : PySem.W.nsIn K mainGlobals "law" = some (some (.ref f_law)))
    (l_law : K.lookup f_law = some ⟨oc_law, od_law, .func (PySem.W.fnOf "law" "law" (defArgs s_law) (defBody s_law) (defScope s_law) .none kV_law dc_law pm_law an_law cd_law ct_law), sl_law⟩)
    (c_law : PySem.W.codeIn K cd_law "law" = true)
    (k_law : PySem.W.keepIn K (.ref f_law) = true)
    (hm : ∀ (c : Ad) (ns : List Int), ns.length ≤ 63 → (∀ z ∈ ns, Builtin.Int.intBits z ≤ 1048576) → m_law c [.sq ns] = .ok (.bl true)) : ∃ fd : FuncData, (∀ (s : Shared) (u : Value), BindsTo s fd ⟨[u], []⟩ [("_law_script", u)]) ∧ ∀ base : Heap, K.In base → base.Ns mainGlobals mg → FnOk P w K mg base (L2.CX P w) 13 fa fd ["_law_script"] (spLaw K) := by
  have e := hfa.symm.trans (PySem.W.mg_of X G a_law)
  cases e
  have T0 : T K mg ⟨C_StampError, C_BadName, C_BadStamp, C_NameTaken, C_UnknownName, C_BadNote, C_BadClaimText, C_Stock, C_Box⟩ := {
    b_ValueError := PySem.W.mg_none_of X G b_ValueError,
    b_bool := PySem.W.mg_none_of X G b_bool,
    b_enumerate := PySem.W.mg_none_of X G b_enumerate,
    b_int := PySem.W.mg_none_of X G b_int,
    b_isinstance := PySem.W.mg_none_of X G b_isinstance,
    b_len := PySem.W.mg_none_of X G b_len,
    b_list := PySem.W.mg_none_of X G b_list,
    b_min := PySem.W.mg_none_of X G b_min,
    b_range := PySem.W.mg_none_of X G b_range,
    b_set := PySem.W.mg_none_of X G b_set,
    b_str := PySem.W.mg_none_of X G b_str,
    b_sum := PySem.W.mg_none_of X G b_sum,
    b_tuple := PySem.W.mg_none_of X G b_tuple,
    g_DIGITS := ⟨_, PySem.W.mg_of X G g_DIGITS, ⟨_, rfl⟩⟩,
    g_FIGURES := ⟨_, PySem.W.mg_of X G g_FIGURES, ⟨_, rfl⟩⟩,
    g_LETTERS := ⟨_, PySem.W.mg_of X G g_LETTERS, ⟨_, rfl⟩⟩,
    g_LONGEST_NAME := ⟨_, PySem.W.mg_of X G g_LONGEST_NAME, ⟨_, rfl⟩⟩,
    g_MOST_BOX_STAMPS := ⟨_, PySem.W.mg_of X G g_MOST_BOX_STAMPS, ⟨_, rfl⟩⟩,
    g_MOST_CELLS_layers := ⟨_, PySem.W.mg_of X G g_MOST_CELLS_layers, ⟨_, rfl⟩⟩,
    g_MOST_CELLS_stocknotes := ⟨_, PySem.W.mg_of X G g_MOST_CELLS_stocknotes, ⟨_, rfl⟩⟩,
    g_MOST_PAIRS := ⟨_, PySem.W.mg_of X G g_MOST_PAIRS, ⟨_, rfl⟩⟩,
    g_MOST_STAMPS := ⟨_, PySem.W.mg_of X G g_MOST_STAMPS, ⟨_, rfl⟩⟩,
    g_PAIR := ⟨_, PySem.W.mg_of X G g_PAIR, ⟨_, rfl⟩⟩,
    g_SIGNS := ⟨_, PySem.W.mg_of X G g_SIGNS, ⟨_, rfl⟩⟩,
    g_STOCK_WORD := ⟨_, PySem.W.mg_of X G g_STOCK_WORD, ⟨_, rfl⟩⟩,
    x_BadNote := ⟨⟨_, _, _, _, _, _, _, _, _, _, _, _, _, _, _, xl_BadNote, rb_BadNote⟩, xsa_BadNote, xe_BadNote, xt_BadNote, xk_BadNote⟩,
    cl_Stock := ⟨pg_Stock, hd_Stock, po_Stock, sa_Stock⟩,
    k_Stock := ⟨_, PySem.W.mg_of X G a_Stock, rfl⟩,
    o_Stock := ⟨⟨pg_Stock, hd_Stock, po_Stock, sa_Stock⟩, oa_Stock, on, ot, om_Stock, kit_self, kit_cls hd_Stock tt_Stock on_Stock rfl⟩,
    cl_Box := ⟨pg_Box, hd_Box, po_Box, sa_Box⟩,
    k_Box := ⟨_, PySem.W.mg_of X G a_Box, rfl⟩,
    o_Box := ⟨⟨pg_Box, hd_Box, po_Box, sa_Box⟩, oa_Box, on, ot, om_Box, kit_self, kit_cls hd_Box tt_Box on_Box rfl⟩,
    kx_BadClaimText := ⟨_, PySem.W.mg_of X G a_BadClaimText, rfl⟩,
    kx_BadName := ⟨_, PySem.W.mg_of X G a_BadName, rfl⟩,
    kx_BadNote := ⟨_, PySem.W.mg_of X G a_BadNote, rfl⟩,
    kx_BadStamp := ⟨_, PySem.W.mg_of X G a_BadStamp, rfl⟩,
    kx_NameTaken := ⟨_, PySem.W.mg_of X G a_NameTaken, rfl⟩,
    kx_UnknownName := ⟨_, PySem.W.mg_of X G a_UnknownName, rfl⟩,
    mx_StampError := PySem.W.mg_of X G a_StampError,
    xc_BadNote := ⟨ga_BadNote, gg_BadNote, xs_BadNote, xh_BadNote, oa_BadNote, on, ot, om_BadNote⟩,
    xf_BadNote := ⟨ga_BadNote, gg_BadNote, xs_BadNote, xh_BadNote⟩,
    xm_BadNote_StampError := PySem.W.exm_ref tb_StampError td_StampError tq_StampError sm_BadNote_StampError,
    is_BadNote_BadClaimText := kit_cls td_BadClaimText tq_BadClaimText sb_BadNote_BadClaimText ne_BadNote_BadClaimText,
    is_BadNote_BadName := kit_cls td_BadName tq_BadName sb_BadNote_BadName ne_BadNote_BadName,
    is_BadNote_BadNote := kit_self,
    is_BadNote_BadStamp := kit_cls td_BadStamp tq_BadStamp sb_BadNote_BadStamp ne_BadNote_BadStamp,
    is_BadNote_NameTaken := kit_cls td_NameTaken tq_NameTaken sb_BadNote_NameTaken ne_BadNote_NameTaken,
    is_BadNote_UnknownName := kit_cls td_UnknownName tq_UnknownName sb_BadNote_UnknownName ne_BadNote_UnknownName,
    is_BadNote_ValueError := kit_blt (by decide +kernel) sb_BadNote_ValueError,
    n_BadNote_line := n_BadNote_line,
    n_Box_pairs := n_Box_pairs,
    n_Box_stock := n_Box_stock,
    n_Stock_layers := n_Stock_layers,
    n_Stock_numbers := n_Stock_numbers,
    n_Stock_size := n_Stock_size,
    n_Stock_stamps := n_Stock_stamps }
  have F_number_in := fun_mk (st := s_number_in) l_number_in c_number_in k_number_in
  have d_number_in := F_number_in.binds (ps := ["text", "longest"]) fun _ _ _ _ _ _ us hl => match us, hl with | [_, _], _ => rfl
  have F_size_in := fun_mk (st := s_size_in) l_size_in c_size_in k_size_in
  have d_size_in := F_size_in.binds (ps := ["line"]) fun _ _ _ _ _ _ us hl => match us, hl with | [_], _ => rfl
  have F_BadNote___init__ := fun_mk (st := s_BadNote___init__) l_BadNote___init__ c_BadNote___init__ k_BadNote___init__
  have d_BadNote___init__ := F_BadNote___init__.binds (ps := ["self", "line"]) fun _ _ _ _ _ _ us hl => match us, hl with | [_, _], _ => rfl
  have F_is_name := fun_mk (st := s_is_name) l_is_name c_is_name k_is_name
  have d_is_name := F_is_name.binds (ps := ["value"]) fun _ _ _ _ _ _ us hl => match us, hl with | [_], _ => rfl
  have F_is_layer := fun_mk (st := s_is_layer) l_is_layer c_is_layer k_is_layer
  have d_is_layer := F_is_layer.binds (ps := ["value"]) fun _ _ _ _ _ _ us hl => match us, hl with | [_], _ => rfl
  have F_empty_layer := fun_mk (st := s_empty_layer) l_empty_layer c_empty_layer k_empty_layer
  have d_empty_layer := F_empty_layer.binds (ps := ["size"]) fun _ _ _ _ _ _ us hl => match us, hl with | [_], _ => rfl
  have F_stamp_in := fun_mk (st := s_stamp_in) l_stamp_in c_stamp_in k_stamp_in
  have d_stamp_in := F_stamp_in.binds (ps := ["line", "size"]) fun _ _ _ _ _ _ us hl => match us, hl with | [_, _], _ => rfl
  have F_frozen := fun_mk (st := s_frozen) l_frozen c_frozen k_frozen
  have d_frozen := F_frozen.binds (ps := ["value"]) fun _ _ _ _ _ _ us hl => match us, hl with | [_], _ => rfl
  have F_is_stamp := fun_mk (st := s_is_stamp) l_is_stamp c_is_stamp k_is_stamp
  have d_is_stamp := F_is_stamp.binds (ps := ["value", "size"]) fun _ _ _ _ _ _ us hl => match us, hl with | [_, _], _ => rfl
  have F_Stock___init__ := fun_mk (st := s_Stock___init__) l_Stock___init__ c_Stock___init__ k_Stock___init__
  have d_Stock___init__ := F_Stock___init__.binds (ps := ["self", "size", "stamps"]) fun _ _ _ _ _ _ us hl => match us, hl with | [_, _, _], _ => rfl
  have F_stock_in := fun_mk (st := s_stock_in) l_stock_in c_stock_in k_stock_in
  have d_stock_in := F_stock_in.binds (ps := ["lines", "most"]) fun _ _ _ _ _ _ us hl => match us, hl with | [_, _], _ => rfl
  have F_parse_stock := fun_mk (st := s_parse_stock) l_parse_stock c_parse_stock k_parse_stock
  have d_parse_stock := F_parse_stock.binds (ps := ["text"]) fun _ _ _ _ _ _ us hl => match us, hl with | [_], _ => rfl
  have F_is_pair_line := fun_mk (st := s_is_pair_line) l_is_pair_line c_is_pair_line k_is_pair_line
  have d_is_pair_line := F_is_pair_line.binds (ps := ["line"]) fun _ _ _ _ _ _ us hl => match us, hl with | [_], _ => rfl
  have F_first_pair_line := fun_mk (st := s_first_pair_line) l_first_pair_line c_first_pair_line k_first_pair_line
  have d_first_pair_line := F_first_pair_line.binds (ps := ["lines"]) fun _ _ _ _ _ _ us hl => match us, hl with | [_], _ => rfl
  have F_is_layer_of := fun_mk (st := s_is_layer_of) l_is_layer_of c_is_layer_of k_is_layer_of
  have d_is_layer_of := F_is_layer_of.binds (ps := ["size", "word"]) fun _ _ _ _ _ _ us hl => match us, hl with | [_, _], _ => rfl
  have F_pair_in := fun_mk (st := s_pair_in) l_pair_in c_pair_in k_pair_in
  have d_pair_in := F_pair_in.binds (ps := ["line", "size"]) fun _ _ _ _ _ _ us hl => match us, hl with | [_, _], _ => rfl
  have F_Box___init__ := fun_mk (st := s_Box___init__) l_Box___init__ c_Box___init__ k_Box___init__
  have d_Box___init__ := F_Box___init__.binds (ps := ["self", "stock", "pairs"]) fun _ _ _ _ _ _ us hl => match us, hl with | [_, _, _], _ => rfl
  have F_parse_box := fun_mk (st := s_parse_box) l_parse_box c_parse_box k_parse_box
  have d_parse_box := F_parse_box.binds (ps := ["text"]) fun _ _ _ _ _ _ us hl => match us, hl with | [_], _ => rfl
  have F__law_is_layer := fun_mk (st := s__law_is_layer) l__law_is_layer c__law_is_layer k__law_is_layer
  have d__law_is_layer := F__law_is_layer.binds (ps := ["_law_size", "_law_word"]) fun _ _ _ _ _ _ us hl => match us, hl with | [_, _], _ => rfl
  have F__law_is_name := fun_mk (st := s__law_is_name) l__law_is_name c__law_is_name k__law_is_name
  have d__law_is_name := F__law_is_name.binds (ps := ["_law_word"]) fun _ _ _ _ _ _ us hl => match us, hl with | [_], _ => rfl
  have F__law_read := fun_mk (st := s__law_read) l__law_read c__law_read k__law_read
  have d__law_read := F__law_read.binds (ps := ["_law_note", "_law_most", "_law_count"]) fun _ _ _ _ _ _ us hl => match us, hl with | [_, _, _], _ => rfl
  have F__law_told := fun_mk (st := s__law_told) l__law_told c__law_told k__law_told
  have d__law_told := F__law_told.binds (ps := ["_law_word", "_law_note", "_law_named"]) fun _ _ _ _ _ _ us hl => match us, hl with | [_, _, _], _ => rfl
  have F__law_whole := fun_mk (st := s__law_whole) l__law_whole c__law_whole k__law_whole
  have d__law_whole := F__law_whole.binds (ps := ["_law_value"]) fun _ _ _ _ _ _ us hl => match us, hl with | [_], _ => rfl
  have F__law_alike := fun_mk (st := s__law_alike) l__law_alike c__law_alike k__law_alike
  have d__law_alike := F__law_alike.binds (ps := ["_law_told_here", "_law_due"]) fun _ _ _ _ _ _ us hl => match us, hl with | [_, _], _ => rfl
  have F_Stock_names := fun_mk (st := s_Stock_names) l_Stock_names c_Stock_names k_Stock_names
  have d_Stock_names := F_Stock_names.binds (ps := ["self"]) fun _ _ _ _ _ _ us hl => match us, hl with | [_], _ => rfl
  have F_Stock___eq__ := fun_mk (st := s_Stock___eq__) l_Stock___eq__ c_Stock___eq__ k_Stock___eq__
  have d_Stock___eq__ := F_Stock___eq__.binds (ps := ["self", "other"]) fun _ _ _ _ _ _ us hl => match us, hl with | [_, _], _ => rfl
  have F__law_is_stock := fun_mk (st := s__law_is_stock) l__law_is_stock c__law_is_stock k__law_is_stock
  have d__law_is_stock := F__law_is_stock.binds (ps := ["_law_read_here", "_law_size", "_law_stamps_here"]) fun _ _ _ _ _ _ us hl => match us, hl with | [_, _, _], _ => rfl
  have F_stock_lines := fun_mk (st := s_stock_lines) l_stock_lines c_stock_lines k_stock_lines
  have d_stock_lines := F_stock_lines.binds (ps := ["stock"]) fun _ _ _ _ _ _ us hl => match us, hl with | [_], _ => rfl
  have F_format_stock := fun_mk (st := s_format_stock) l_format_stock c_format_stock k_format_stock
  have d_format_stock := F_format_stock.binds (ps := ["stock"]) fun _ _ _ _ _ _ us hl => match us, hl with | [_], _ => rfl
  have F__law_stock_asked := fun_mk (st := s__law_stock_asked) l__law_stock_asked c__law_stock_asked k__law_stock_asked
  have d__law_stock_asked := F__law_stock_asked.binds (ps := ["_law_note", "_law_named"]) fun _ _ _ _ _ _ us hl => match us, hl with | [_, _], _ => rfl
  have F_Box___len__ := fun_mk (st := s_Box___len__) l_Box___len__ c_Box___len__ k_Box___len__
  have d_Box___len__ := F_Box___len__.binds (ps := ["self"]) fun _ _ _ _ _ _ us hl => match us, hl with | [_], _ => rfl
  have F_Box___eq__ := fun_mk (st := s_Box___eq__) l_Box___eq__ c_Box___eq__ k_Box___eq__
  have d_Box___eq__ := F_Box___eq__.binds (ps := ["self", "other"]) fun _ _ _ _ _ _ us hl => match us, hl with | [_, _], _ => rfl
  have F_format_box := fun_mk (st := s_format_box) l_format_box c_format_box k_format_box
  have d_format_box := F_format_box.binds (ps := ["box"]) fun _ _ _ _ _ _ us hl => match us, hl with | [_], _ => rfl
  have F__law_asked := fun_mk (st := s__law_asked) l__law_asked c__law_asked k__law_asked
  have d__law_asked := F__law_asked.binds (ps := ["_law_note", "_law_named"]) fun _ _ _ _ _ _ us hl => match us, hl with | [_, _], _ => rfl
  have F__law_fresh := fun_mk (st := s__law_fresh) l__law_fresh c__law_fresh k__law_fresh
  have d__law_fresh := F__law_fresh.binds (ps := ["_law_name_here", "_law_taken"]) fun _ _ _ _ _ _ us hl => match us, hl with | [_, _], _ => rfl
  have F__law_full := fun_mk (st := s__law_full) l__law_full c__law_full k__law_full
  have d__law_full := F__law_full.binds (ps := ["_law_size", "_law_stamps_here", "_law_many"]) fun _ _ _ _ _ _ us hl => match us, hl with | [_, _, _], _ => rfl
  have F__law_notes := fun_mk (st := s__law_notes) l__law_notes c__law_notes k__law_notes
  have d__law_notes := F__law_notes.binds (ps := ["_law_size", "_law_stamps_here", "_law_pairs", "_law_digits_here"]) fun _ _ _ _ _ _ us hl => match us, hl with | [_, _, _, _], _ => rfl
  have F__law_further := fun_mk (st := s__law_further) l__law_further c__law_further k__law_further
  have d__law_further := F__law_further.binds (ps := ["_law_size", "_law_taken"]) fun _ _ _ _ _ _ us hl => match us, hl with | [_, _], _ => rfl
  have F__law_firsts := fun_mk (st := s__law_firsts) l__law_firsts c__law_firsts k__law_firsts
  have d__law_firsts := F__law_firsts.binds (ps := ["_law_size"]) fun _ _ _ _ _ _ us hl => match us, hl with | [_], _ => rfl
  have F__law_digits := fun_mk (st := s__law_digits) l__law_digits c__law_digits k__law_digits
  have d__law_digits := F__law_digits.binds (ps := ["_law_cell_here", "_law_sizes"]) fun _ _ _ _ _ _ us hl => match us, hl with | [_, _], _ => rfl
  have F__law_signs := fun_mk (st := s__law_signs) l__law_signs c__law_signs k__law_signs
  have d__law_signs := F__law_signs.binds (ps := []) fun _ _ _ _ _ _ us hl => match us, hl with | [], _ => rfl
  have F__law_free_text := fun_mk (st := s__law_free_text) l__law_free_text c__law_free_text k__law_free_text
  have d__law_free_text := F__law_free_text.binds (ps := ["_law_cell_here", "_law_words"]) fun _ _ _ _ _ _ us hl => match us, hl with | [_, _], _ => rfl
  have F__law_sign := fun_mk (st := s__law_sign) l__law_sign c__law_sign k__law_sign
  have d__law_sign := F__law_sign.binds (ps := ["_law_digit"]) fun _ _ _ _ _ _ us hl => match us, hl with | [_], _ => rfl
  have F__law_spoilt := fun_mk (st := s__law_spoilt) l__law_spoilt c__law_spoilt k__law_spoilt
  have d__law_spoilt := F__law_spoilt.binds (ps := ["_law_note", "_law_row", "_law_firsts_here", "_law_further_here"]) fun _ _ _ _ _ _ us hl => match us, hl with | [_, _, _, _], _ => rfl
  have F__law_cell := fun_mk (st := s__law_cell) l__law_cell c__law_cell k__law_cell
  have d__law_cell := F__law_cell.binds (ps := ["_law_script", "_law_k"]) fun _ _ _ _ _ _ us hl => match us, hl with | [_, _], _ => rfl
  have F__law_name := fun_mk (st := s__law_name) l__law_name c__law_name k__law_name
  have d__law_name := F__law_name.binds (ps := ["_law_row"]) fun _ _ _ _ _ _ us hl => match us, hl with | [_], _ => rfl
  have F__law_any_stamp := fun_mk (st := s__law_any_stamp) l__law_any_stamp c__law_any_stamp k__law_any_stamp
  have d__law_any_stamp := F__law_any_stamp.binds (ps := ["_law_row", "_law_size"]) fun _ _ _ _ _ _ us hl => match us, hl with | [_, _], _ => rfl
  have F__law_stamps := fun_mk (st := s__law_stamps) l__law_stamps c__law_stamps k__law_stamps
  have d__law_stamps := F__law_stamps.binds (ps := ["_law_script", "_law_at", "_law_many", "_law_size"]) fun _ _ _ _ _ _ us hl => match us, hl with | [_, _, _, _], _ => rfl
  have F__law_layer := fun_mk (st := s__law_layer) l__law_layer c__law_layer k__law_layer
  have d__law_layer := F__law_layer.binds (ps := ["_law_row", "_law_size"]) fun _ _ _ _ _ _ us hl => match us, hl with | [_, _], _ => rfl
  have F_law := fun_mk (st := s_law) l_law c_law k_law
  have d_law := F_law.binds (ps := ["_law_script"]) fun _ _ _ _ _ _ us hl => match us, hl with | [_], _ => rfl
  have e_h_format_boxN := kbn_mk (K := K) (fd := PySem.W.fnOf "format_box" "format_box" (defArgs s_format_box) (defBody s_format_box) (defScope s_format_box) .none kV_format_box dc_format_box pm_format_box an_format_box cd_format_box ct_format_box) (ps := ["box"]) (ks := ["box"]) (n := 0) fun s us ws h1 h2 => match us, ws, h1, h2 with | [], [_], _, _ => .of_eq rfl
  have e_h_format_stockN := kbn_mk (K := K) (fd := PySem.W.fnOf "format_stock" "format_stock" (defArgs s_format_stock) (defBody s_format_stock) (defScope s_format_stock) .none kV_format_stock dc_format_stock pm_format_stock an_format_stock cd_format_stock ct_format_stock) (ps := ["stock"]) (ks := ["stock"]) (n := 0) fun s us ws h1 h2 => match us, ws, h1, h2 with | [], [_], _, _ => .of_eq rfl
  have e_h_parse_boxN := kbn_mk (K := K) (fd := PySem.W.fnOf "parse_box" "parse_box" (defArgs s_parse_box) (defBody s_parse_box) (defScope s_parse_box) .none kV_parse_box dc_parse_box pm_parse_box an_parse_box cd_parse_box ct_parse_box) (ps := ["text"]) (ks := ["text"]) (n := 0) fun s us ws h1 h2 => match us, ws, h1, h2 with | [], [_], _, _ => .of_eq rfl
  have e_h_parse_stockN := kbn_mk (K := K) (fd := PySem.W.fnOf "parse_stock" "parse_stock" (defArgs s_parse_stock) (defBody s_parse_stock) (defScope s_parse_stock) .none kV_parse_stock dc_parse_stock pm_parse_stock an_parse_stock cd_parse_stock ct_parse_stock) (ps := ["text"]) (ks := ["text"]) (n := 0) fun s us ws h1 h2 => match us, ws, h1, h2 with | [], [_], _, _ => .of_eq rfl
  refine ⟨PySem.W.fnOf "law" "law" (defArgs s_law) (defBody s_law) (defScope s_law) .none kV_law dc_law pm_law an_law cd_law ct_law, fun s v => .of_eq rfl, fun base _ _ => ?_⟩
  have h__law_digits := has_mk (P := P) (w := w) (base := base) (PySem.W.mg_of X G a__law_digits) k__law_digits d__law_digits (ok__law_digits T0 F__law_digits)
  have h__law_cell := has_mk (P := P) (w := w) (base := base) (PySem.W.mg_of X G a__law_cell) k__law_cell d__law_cell (ok__law_cell T0 F__law_cell)
  have h__law_fresh := has_mk (P := P) (w := w) (base := base) (PySem.W.mg_of X G a__law_fresh) k__law_fresh d__law_fresh (ok__law_fresh T0 F__law_fresh)
  have h__law_name := has_mk (P := P) (w := w) (base := base) (PySem.W.mg_of X G a__law_name) k__law_name d__law_name (ok__law_name T0 F__law_name)
  have h__law_any_stamp := has_mk (P := P) (w := w) (base := base) (PySem.W.mg_of X G a__law_any_stamp) k__law_any_stamp d__law_any_stamp (ok__law_any_stamp T0 F__law_any_stamp)
  have h__law_stamps := has_mk (P := P) (w := w) (base := base) (PySem.W.mg_of X G a__law_stamps) k__law_stamps d__law_stamps (ok__law_stamps T0 F__law_stamps h__law_digits h__law_cell h__law_fresh h__law_name h__law_any_stamp)
  have h__law_layer := has_mk (P := P) (w := w) (base := base) (PySem.W.mg_of X G a__law_layer) k__law_layer d__law_layer (ok__law_layer T0 F__law_layer)
  have h__law_full := has_mk (P := P) (w := w) (base := base) (PySem.W.mg_of X G a__law_full) k__law_full d__law_full (ok__law_full T0 F__law_full h__law_fresh)
  have h__law_notes := has_mk (P := P) (w := w) (base := base) (PySem.W.mg_of X G a__law_notes) k__law_notes d__law_notes (ok__law_notes T0 F__law_notes h__law_full)
  have h_frozen := has_mk (P := P) (w := w) (base := base) (PySem.W.mg_of X G a_frozen) k_frozen d_frozen (ok_frozen T0 F_frozen (PySem.W.mg_of X G a_frozen) k_frozen d_frozen  4)
  have h_is_name := has_mk (P := P) (w := w) (base := base) (PySem.W.mg_of X G a_is_name) k_is_name d_is_name (ok_is_name T0 F_is_name)
  have h_is_layer := has_mk (P := P) (w := w) (base := base) (PySem.W.mg_of X G a_is_layer) k_is_layer d_is_layer (ok_is_layer T0 F_is_layer)
  have h_empty_layer := has_mk (P := P) (w := w) (base := base) (PySem.W.mg_of X G a_empty_layer) k_empty_layer d_empty_layer (ok_empty_layer T0 F_empty_layer)
  have h_is_stamp := has_mk (P := P) (w := w) (base := base) (PySem.W.mg_of X G a_is_stamp) k_is_stamp d_is_stamp (ok_is_stamp T0 F_is_stamp h_is_layer h_empty_layer)
  have h_Stock___init__ := hasI_mk (P := P) (w := w) (base := base) ⟨mk_Stock___init__, a_Stock___init__, i_Stock___init__, kc_Stock___init__⟩ (PySem.W.mg_of X G a_Stock) d_Stock___init__ (ok_Stock___init__ T0 F_Stock___init__ h_frozen h_is_name h_is_stamp)
  have h_Box___init__ := hasI_mk (P := P) (w := w) (base := base) ⟨mk_Box___init__, a_Box___init__, i_Box___init__, kc_Box___init__⟩ (PySem.W.mg_of X G a_Box) d_Box___init__ (ok_Box___init__ T0 F_Box___init__ h_frozen)
  have h__law_whole := has_mk (P := P) (w := w) (base := base) (PySem.W.mg_of X G a__law_whole) k__law_whole d__law_whole (ok__law_whole T0 F__law_whole)
  have h__law_alike := has_mk (P := P) (w := w) (base := base) (PySem.W.mg_of X G a__law_alike) k__law_alike d__law_alike (ok__law_alike T0 F__law_alike (PySem.W.mg_of X G a__law_alike) k__law_alike d__law_alike h__law_whole 4)
  have h_stock_lines := has_mk (P := P) (w := w) (base := base) (PySem.W.mg_of X G a_stock_lines) k_stock_lines d_stock_lines (ok_stock_lines T0 F_stock_lines)
  have h_format_stock := has_mk (P := P) (w := w) (base := base) (PySem.W.mg_of X G a_format_stock) k_format_stock d_format_stock (ok_format_stock T0 F_format_stock h_stock_lines)
  have h_format_box := has_mk (P := P) (w := w) (base := base) (PySem.W.mg_of X G a_format_box) k_format_box d_format_box (ok_format_box T0 F_format_box h_stock_lines)
  have h__law_is_layer := has_mk (P := P) (w := w) (base := base) (PySem.W.mg_of X G a__law_is_layer) k__law_is_layer d__law_is_layer (ok__law_is_layer T0 F__law_is_layer)
  have h__law_is_name := has_mk (P := P) (w := w) (base := base) (PySem.W.mg_of X G a__law_is_name) k__law_is_name d__law_is_name (ok__law_is_name T0 F__law_is_name)
  have h__law_read := has_mk (P := P) (w := w) (base := base) (PySem.W.mg_of X G a__law_read) k__law_read d__law_read (ok__law_read T0 F__law_read h__law_is_layer h__law_is_name)
  have h_number_in := has_mk (P := P) (w := w) (base := base) (PySem.W.mg_of X G a_number_in) k_number_in d_number_in (ok_number_in T0 F_number_in)
  have h_size_in := has_mk (P := P) (w := w) (base := base) (PySem.W.mg_of X G a_size_in) k_size_in d_size_in (ok_size_in T0 F_size_in h_number_in)
  have h_BadNote___init__ := hasX_mk (P := P) (w := w) (base := base) T0.x_BadNote a_BadNote___init__ ty_BadNote___init__ (PySem.W.mg_of X G a_BadNote) d_BadNote___init__ (ok_BadNote___init__ T0 F_BadNote___init__)
  have h_stamp_in := has_mk (P := P) (w := w) (base := base) (PySem.W.mg_of X G a_stamp_in) k_stamp_in d_stamp_in (ok_stamp_in T0 F_stamp_in h_is_name h_is_layer h_empty_layer)
  have h_stock_in := has_mk (P := P) (w := w) (base := base) (PySem.W.mg_of X G a_stock_in) k_stock_in d_stock_in (ok_stock_in T0 F_stock_in h_size_in h_BadNote___init__ h_stamp_in h_Stock___init__)
  have h_parse_stockN := hasN_mk (P := P) (w := w) (base := base) (PySem.W.mg_of X G a_parse_stock) k_parse_stock e_h_parse_stockN (ok_parse_stock T0 F_parse_stock h_stock_in)
  have h_parse_stock := has_mk (P := P) (w := w) (base := base) (PySem.W.mg_of X G a_parse_stock) k_parse_stock d_parse_stock (ok_parse_stock T0 F_parse_stock h_stock_in)
  have h_is_pair_line := has_mk (P := P) (w := w) (base := base) (PySem.W.mg_of X G a_is_pair_line) k_is_pair_line d_is_pair_line (ok_is_pair_line T0 F_is_pair_line)
  have h_first_pair_line := has_mk (P := P) (w := w) (base := base) (PySem.W.mg_of X G a_first_pair_line) k_first_pair_line d_first_pair_line (ok_first_pair_line T0 F_first_pair_line h_is_pair_line)
  have h_is_layer_of := has_mk (P := P) (w := w) (base := base) (PySem.W.mg_of X G a_is_layer_of) k_is_layer_of d_is_layer_of (ok_is_layer_of T0 F_is_layer_of h_is_layer)
  have h_pair_in := has_mk (P := P) (w := w) (base := base) (PySem.W.mg_of X G a_pair_in) k_pair_in d_pair_in (ok_pair_in T0 F_pair_in h_is_pair_line h_is_layer_of)
  have h_parse_boxN := hasN_mk (P := P) (w := w) (base := base) (PySem.W.mg_of X G a_parse_box) k_parse_box e_h_parse_boxN (ok_parse_box T0 F_parse_box h_first_pair_line h_stock_in h_pair_in h_BadNote___init__ h_Box___init__)
  have h_parse_box := has_mk (P := P) (w := w) (base := base) (PySem.W.mg_of X G a_parse_box) k_parse_box d_parse_box (ok_parse_box T0 F_parse_box h_first_pair_line h_stock_in h_pair_in h_BadNote___init__ h_Box___init__)
  have h__law_told := has_mk (P := P) (w := w) (base := base) (PySem.W.mg_of X G a__law_told) k__law_told d__law_told (ok__law_told T0 F__law_told h_parse_stockN h_parse_stock h_parse_boxN h_parse_box)
  have h_Stock_names := hasP_mk (P := P) (w := w) (base := base) ⟨a_Stock_names, pq_Stock_names, pt_Stock_names, _, pr_Stock_names⟩ d_Stock_names (ok_Stock_names T0 F_Stock_names)
  have h_Stock___eq__ := hasM_mk (P := P) (w := w) (base := base) ⟨a_Stock___eq__, i_Stock___eq__, k_Stock___eq__⟩ d_Stock___eq__ (ok_Stock___eq__ T0 F_Stock___eq__)
  have h__law_is_stock := has_mk (P := P) (w := w) (base := base) (PySem.W.mg_of X G a__law_is_stock) k__law_is_stock d__law_is_stock (ok__law_is_stock T0 F__law_is_stock h__law_alike h_Stock_names h_Stock___eq__ h_Stock___init__)
  have h__law_stock_asked := has_mk (P := P) (w := w) (base := base) (PySem.W.mg_of X G a__law_stock_asked) k__law_stock_asked d__law_stock_asked (ok__law_stock_asked T0 F__law_stock_asked h__law_read h__law_told h__law_alike h__law_is_stock h_format_stock)
  have h_Box___len__ := hasM_mk (P := P) (w := w) (base := base) ⟨a_Box___len__, i_Box___len__, k_Box___len__⟩ d_Box___len__ (ok_Box___len__ T0 F_Box___len__)
  have h_Box___eq__ := hasM_mk (P := P) (w := w) (base := base) ⟨a_Box___eq__, i_Box___eq__, k_Box___eq__⟩ d_Box___eq__ (ok_Box___eq__ T0 F_Box___eq__ h_Stock___eq__)
  have h__law_asked := has_mk (P := P) (w := w) (base := base) (PySem.W.mg_of X G a__law_asked) k__law_asked d__law_asked (ok__law_asked T0 F__law_asked h__law_read h__law_told h__law_stock_asked h__law_alike h__law_is_stock h_Box___len__ h_Box___eq__ h_Box___init__ h_Stock___init__ h_format_box)
  have h__law_further := has_mk (P := P) (w := w) (base := base) (PySem.W.mg_of X G a__law_further) k__law_further d__law_further (ok__law_further T0 F__law_further h__law_fresh)
  have h__law_signs := has_mk (P := P) (w := w) (base := base) (PySem.W.mg_of X G a__law_signs) k__law_signs d__law_signs (ok__law_signs T0 F__law_signs)
  have h__law_sign := has_mk (P := P) (w := w) (base := base) (PySem.W.mg_of X G a__law_sign) k__law_sign d__law_sign (ok__law_sign T0 F__law_sign h__law_signs)
  have h__law_spoilt := has_mk (P := P) (w := w) (base := base) (PySem.W.mg_of X G a__law_spoilt) k__law_spoilt d__law_spoilt (ok__law_spoilt T0 F__law_spoilt h__law_sign)
  have h__law_firsts := has_mk (P := P) (w := w) (base := base) (PySem.W.mg_of X G a__law_firsts) k__law_firsts d__law_firsts (ok__law_firsts T0 F__law_firsts)
  have h__law_free_text := has_mk (P := P) (w := w) (base := base) (PySem.W.mg_of X G a__law_free_text) k__law_free_text d__law_free_text (ok__law_free_text T0 F__law_free_text h__law_digits h__law_signs)
  have h_format_stockN := hasN_mk (P := P) (w := w) (base := base) (PySem.W.mg_of X G a_format_stock) k_format_stock e_h_format_stockN (ok_format_stock T0 F_format_stock h_stock_lines)
  have h_format_boxN := hasN_mk (P := P) (w := w) (base := base) (PySem.W.mg_of X G a_format_box) k_format_box e_h_format_boxN (ok_format_box T0 F_format_box h_stock_lines)
  exact (ok_law (P := P) (w := w) (base := base) T0 F_law h__law_digits h__law_cell h__law_stamps h__law_layer h__law_notes h_Stock___init__ h_Box___init__ h__law_alike h_format_stock h_format_box h__law_asked h__law_further h__law_spoilt h__law_firsts h__law_free_text h_format_stockN h_format_boxN).imp (law_imp (hm _))
theorem walk {l : PySem.W.OpenLaw} {q : Program} {loose : List Str} {XP : (Str → Option Value) → Heap → Prop} {YP : World → Heap → Prop} {d : DefRec} {K : Params → PySem.W.Frag} (hn : l.most = some 63) (hdf : d.params.defaults = [])
    (hY : ∀ (w : World) (h : Heap), YP w h → (K w.params).In h)
    (F : ∀ (w : World) (mg : Str → Option Value) (fa : Addr) (h : Heap), (K w.params).In h → h.Ns mainGlobals mg → mg d.name = some (.ref fa) →
      ∃ fd : FuncData, (∀ (s : Shared) (u : Value), BindsTo s fd ⟨[u], []⟩ [("_law_script", u)]) ∧ ∀ base : Heap, (K w.params).In base → base.Ns mainGlobals mg → FnOk l.prog w (K w.params) mg base (L2.CX l.prog w) 13 fa fd ["_law_script"] (spLaw (K w.params))) :
    PySem.W.WalkO q loose XP YP l.row.toRowW d [] (fun f vs => PySem.call f vs) :=
  L2.walk_ofB (n := 63) (k := 13) (x := "_law_script") (CX := fun w => L2.CX l.prog w) (sp := fun w => spLaw (K w.params)) hn (by decide) hdf ⟨by decide, by decide, by decide⟩ hY F (fun _ _ a ns hl hb _ hS => ⟨a, ns, rfl, hS, hl, hb, fun _ => rfl⟩) fun w H s e s' z => by
    obtain ⟨_, _, _, _, _, _, _, _, _, _, _, _, zz⟩ := z
    exact zz.elim
end LK
set_option Elab.async false
set_option linter.all false
set_option maxRecDepth 100000
set_option maxHeartbeats 1000000
namespace LK
open PySem PySem.Spec PyProof.Rows L2 DL
set_option autoImplicit false
section
variable {c : Ad}
def lastX : Option Xv → List D → Option Xv
  | x, [] => x
  | _, d :: ds => lastX (some (.dat d)) ds
def signs : Str := "-.abcdefghijklmnopqrstuvwxyz"
def inS (x : Nat) (s : Str) : Bool := decide (x ∈ s.cps.toList)
@[simp] theorem dIn_sign (x : Nat) (s : Str) : dIn (sign x) (.str s) = some (.bl (inS x s)) := by
  have := PySem.StrLaws.found_one s x
  unfold inS
  rw [← this]
  rfl
@[simp] theorem dNotIn_sign (x : Nat) (s : Str) : dNotIn (sign x) (.str s) = some (.bl (!inS x s)) := by
  have := PySem.StrLaws.found_one s x
  unfold inS
  rw [← this]
  rfl
/-- a loop that leaves by `return` at the first item of which p fails -/
theorem search_loop {f : D → S → Option S} {body : S → Out} {r : D} (p : D → Bool) (s0 : Option Xv → S) : ∀ (ds : List D) (x : Option Xv) (hf : ∀ d ∈ ds, ∀ x, f d (s0 x) = some (s0 (some (.dat d)))) (hb : ∀ d ∈ ds, body (s0 (some (.dat d))) = if p d = true then .nx (s0 (some (.dat d))) else .ret r),
    forL f body ds (s0 x) = if ds.all p = true then .nx (s0 (lastX x ds)) else .ret r
  | [], x, _, _ => rfl
  | d :: ds, x, hf, hb => by
    unfold forL
    rw [hf d (List.mem_cons_self ..)]
    dsimp only
    rw [hb d (List.mem_cons_self ..)]
    by_cases h : p d = true
    · rw [if_pos h]
      dsimp only
      rw [search_loop p s0 ds (some (.dat d)) (fun e he => hf e (List.mem_cons_of_mem _ he)) fun e he => hb e (List.mem_cons_of_mem _ he)]
      simp -implicitDefEqProofs [h, lastX]
    · rw [if_neg h]
      simp -implicitDefEqProofs [h]
theorem sign_loop {f : D → S → Option S} {body : S → Out} {r : D} (p : Nat → Bool) (s0 : Option Xv → S) (hf : ∀ d x, f d (s0 x) = some (s0 (some (.dat d)))) (hb : ∀ n, body (s0 (some (.dat (sign n)))) = if p n = true then .nx (s0 (some (.dat (sign n)))) else .ret r) : ∀ (ns : List Nat) (x : Option Xv),
    forL f body (ns.map sign) (s0 x) = if ns.all p = true then .nx (s0 (lastX x (ns.map sign))) else .ret r
  | [], x => rfl
  | n :: ns, x => by
    rw [List.map_cons]
    unfold forL
    rw [hf]
    dsimp only
    rw [hb]
    by_cases h : p n = true
    · rw [if_pos h]
      dsimp only
      rw [sign_loop p s0 hf hb ns (some (.dat (sign n)))]
      simp -implicitDefEqProofs [h, lastX]
    · rw [if_neg h]
      simp -implicitDefEqProofs [h]
theorem lp_layer (v : Str) (x : Option Xv) : lp_is_layer_1 c ⟨[some (.dat (.str v)), x], []⟩ = if v.cps.toList.all (fun x => inS x signs) = true then .nx ⟨[some (.dat (.str v)), lastX x (v.cps.toList.map sign)], []⟩ else .ret (.bl false) := by
  unfold lp_is_layer_1
  simp -implicitDefEqProofs only [q_sFor, q_iItems, q_envB, List.map_cons, Option.bind_some, q_baseX_dat, q_eVar0, Rs.bind_ok, q_items_str, ofO_some, q_oX_ok]
  refine sign_loop (fun x => inS x signs) (fun x => ⟨[some (.dat (.str v)), x], []⟩) (fun d x => rfl) (fun n => ?_) _ _
  unfold lb_is_layer_1 signs
  by_cases h : inS n "-.abcdefghijklmnopqrstuvwxyz" = true <;> simp -implicitDefEqProofs [h]
def isLayer (s : Str) : Bool := decide (1 ≤ s.length) && decide (s.length ≤ 30) && s.cps.toList.all (fun x => inS x signs)
theorem is_layer_is (s : Str) (h : s.length ≤ sizeLine) : m_is_layer c [.str s] = .ok (.bl (isLayer s)) := by
  unfold m_is_layer fnD mm_is_layer
  have e1 : ((1 : Int) ≤ (s.length : Int)) ↔ 1 ≤ s.length := by omega
  have e2 : ((s.length : Int) ≤ 30) ↔ s.length ≤ 30 := by omega
  by_cases h1 : 1 ≤ s.length <;> by_cases h2 : s.length ≤ 30 <;> by_cases h3 : s.cps.toList.all (fun x => inS x signs) = true <;> simp -implicitDefEqProofs [startX, bOf, isB, tyN, kitB, h, h1, h2, h3, e1, e2, isLayer, lp_layer]
def letters : Str := "abcdefghijklmnopqrstuvwxyz"
def digits : Str := "0123456789"
def nameSign (x : Nat) : Bool := inS x letters || inS x digits
def isName (s : Str) : Bool := decide (1 ≤ s.length) && decide (s.length ≤ 8) && inS (s.cps.toList.headD 0) letters && s.cps.toList.all nameSign
theorem lp_name (v : Str) (x : Option Xv) : lp_is_name_1 c ⟨[some (.dat (.str v)), x], []⟩ = if v.cps.toList.all nameSign = true then .nx ⟨[some (.dat (.str v)), lastX x (v.cps.toList.map sign)], []⟩ else .ret (.bl false) := by
  unfold lp_is_name_1
  simp -implicitDefEqProofs only [q_sFor, q_iItems, q_envB, List.map_cons, Option.bind_some, q_baseX_dat, q_eVar0, Rs.bind_ok, q_items_str, ofO_some, q_oX_ok]
  refine sign_loop nameSign (fun x => ⟨[some (.dat (.str v)), x], []⟩) (fun d x => rfl) (fun n => ?_) _ _
  unfold lb_is_name_1 nameSign letters digits
  by_cases h : inS n "abcdefghijklmnopqrstuvwxyz" = true <;> by_cases h2 : inS n "0123456789" = true <;> simp -implicitDefEqProofs [h, h2]
theorem atI_zero {α : Type} (x : α) (xs : List α) : atI (x :: xs) 0 = some x := by
  simp -implicitDefEqProofs [atI, ixN]
theorem str_cons {s : Str} (h : 1 ≤ s.length) : ∃ x xs, s.cps.toList = x :: xs := by
  cases e : s.cps.toList with
  | nil =>
    have : s.cps.toList.length = 0 := by rw [e]; rfl
    rw [Array.length_toList] at this
    have h : 1 ≤ s.cps.size := h
    omega
  | cons x xs => exact ⟨x, xs, rfl⟩
theorem is_name_is (s : Str) (h : s.length ≤ sizeLine) : m_is_name c [.str s] = .ok (.bl (isName s)) := by
  unfold m_is_name fnD mm_is_name
  have e1 : ((1 : Int) ≤ (s.length : Int)) ↔ 1 ≤ s.length := by omega
  have e2 : ((s.length : Int) ≤ 8) ↔ s.length ≤ 8 := by omega
  by_cases h1 : 1 ≤ s.length
  · obtain ⟨x, xs, e⟩ := str_cons h1
    have h0 : inS x "abcdefghijklmnopqrstuvwxyz" = inS x letters := rfl
    have e3 : s.cps[0]? = some x := by rw [← Array.getElem?_toList, e]; rfl
    by_cases h2 : s.length ≤ 8 <;> cases h4 : inS x letters <;> cases h3 : s.cps.toList.all nameSign <;> rw [h4] at h0 <;> rw [e] at h3 <;> simp -implicitDefEqProofs [startX, bOf, isB, tyN, kitB, h, h1, h2, h3, h0, h4, e1, e2, isName, lp_name, e, atI_zero, -List.all_eq_true, -List.all_cons]
  · simp -implicitDefEqProofs [startX, bOf, isB, tyN, kitB, h, h1, e1, e2, isName, lp_name]
/-! the law's own tests -/
theorem inS_append (x : Nat) (a b : Str) : inS x (a ++ b) = (inS x a || inS x b) := by
  unfold inS
  have : (a ++ b).cps.toList = a.cps.toList ++ b.cps.toList := by
    show (a.cps ++ b.cps).toList = _
    simp
  rw [this]
  simp -implicitDefEqProofs [Bool.decide_or]
theorem lp_lname (v : Str) (x : Option Xv) : lp__law_is_name_1 c ⟨[some (.dat (.str v)), x], []⟩ = if v.cps.toList.all nameSign = true then .nx ⟨[some (.dat (.str v)), lastX x (v.cps.toList.map sign)], []⟩ else .ret (.bl false) := by
  unfold lp__law_is_name_1
  simp -implicitDefEqProofs only [q_sFor, q_iItems, q_envB, List.map_cons, Option.bind_some, q_baseX_dat, q_eVar0, Rs.bind_ok, q_items_str, ofO_some, q_oX_ok]
  refine sign_loop nameSign (fun x => ⟨[some (.dat (.str v)), x], []⟩) (fun d x => rfl) (fun n => ?_) _ _
  unfold lb__law_is_name_1 nameSign
  rw [← inS_append]
  have e : (letters ++ digits) = ("abcdefghijklmnopqrstuvwxyz0123456789" : Str) := by decide +kernel
  rw [e]
  by_cases h : inS n "abcdefghijklmnopqrstuvwxyz0123456789" = true <;> simp -implicitDefEqProofs [h]
theorem law_is_name_is (s : Str) (h : s.length ≤ sizeLine) : m__law_is_name c [.str s] = .ok (.bl (isName s)) := by
  unfold m__law_is_name fnD mm__law_is_name
  have e1 : ((s.length : Int) < 1) ↔ ¬ 1 ≤ s.length := by omega
  have e2 : ((8 : Int) < (s.length : Int)) ↔ ¬ s.length ≤ 8 := by omega
  by_cases h1 : 1 ≤ s.length
  · obtain ⟨x, xs, e⟩ := str_cons h1
    have h0 : inS x "abcdefghijklmnopqrstuvwxyz" = inS x letters := rfl
    by_cases h2 : s.length ≤ 8 <;> cases h4 : inS x letters <;> cases h3 : s.cps.toList.all nameSign <;> rw [h4] at h0 <;> rw [e] at h3 <;> simp -implicitDefEqProofs [startX, h, h1, h2, h3, h0, h4, e1, e2, isName, lp_lname, e, atI_zero, -List.all_eq_true, -List.all_cons]
  · simp -implicitDefEqProofs [startX, h, h1, e1, e2, isName, lp_lname]
def layerOf (n : Int) (s : Str) : Bool := decide ((s.length : Int) = n) && s.cps.toList.all (fun x => inS x signs)
theorem lp_llayer (d : D) (v : Str) (x : Option Xv) : lp__law_is_layer_1 c ⟨[some (.dat d), some (.dat (.str v)), x], []⟩ = if v.cps.toList.all (fun x => inS x signs) = true then .nx ⟨[some (.dat d), some (.dat (.str v)), lastX x (v.cps.toList.map sign)], []⟩ else .ret (.bl false) := by
  unfold lp__law_is_layer_1
  simp -implicitDefEqProofs only [q_sFor, q_iItems, q_envB, List.map_cons, Option.bind_some, q_baseX_dat, q_eVar0, q_eVarS, Rs.bind_ok, q_items_str, ofO_some, q_oX_ok]
  refine sign_loop (fun x => inS x signs) (fun x => ⟨[some (.dat d), some (.dat (.str v)), x], []⟩) (fun d x => rfl) (fun n => ?_) _ _
  unfold lb__law_is_layer_1 signs
  by_cases h : inS n "-.abcdefghijklmnopqrstuvwxyz" = true <;> simp -implicitDefEqProofs [h]
theorem law_is_layer_is (n : Int) (s : Str) (h : s.length ≤ sizeLine) : m__law_is_layer c [.int n, .str s] = .ok (.bl (layerOf n s)) := by
  unfold m__law_is_layer fnD mm__law_is_layer
  by_cases h1 : (s.length : Int) = n <;> cases h3 : s.cps.toList.all (fun x => inS x signs) <;> simp -implicitDefEqProofs [startX, h, h1, h3, layerOf, lp_llayer, -List.all_eq_true, -List.all_cons]
end
end LK
set_option Elab.async false
set_option linter.all false
set_option maxRecDepth 100000
set_option maxHeartbeats 1000000
namespace LK
open PySem PySem.Spec PyProof.Rows L2 DL
set_option autoImplicit false
section
variable {c : Ad}
def dashes (n : Int) : Str := Txt.mul "-" n
theorem mulOk_nat : ∀ k : Nat, k < 31 → MulOk "-" (k : Int) := by decide +kernel
theorem mulOk_dash {n : Int} (h0 : 0 ≤ n) (h : n ≤ 30) : MulOk "-" n := by
  have := mulOk_nat n.toNat (by omega)
  rwa [show ((n.toNat : Nat) : Int) = n by omega] at this
theorem empty_layer_is {n : Int} (h0 : 0 ≤ n) (h : n ≤ 30) : m_empty_layer c [.int n] = .ok (.str (dashes n)) := by
  unfold m_empty_layer fnD mm_empty_layer
  simp -implicitDefEqProofs [startX, mulOk_dash h0 h, dashes]
def ws (line : Str) : List Str := Txt.split line " "
/-- a text that is not too long -/
def Sm (s : Str) : Prop := s.length ≤ 100000
theorem Sm.le {s : Str} (h : Sm s) : s.length ≤ sizeLine := by
  rw [sizeLine_eq]
  unfold Sm at h
  omega
theorem sum_le : ∀ {xs : List Str} {x : Str}, x ∈ xs → x.length ≤ (xs.map (·.length)).sum
  | [], _, h => by cases h
  | y :: ys, x, h => by
    rw [List.map_cons, List.sum_cons]
    rcases List.mem_cons.mp h with rfl | h
    · exact Nat.le_add_right _ _
    · exact Nat.le_trans (sum_le h) (Nat.le_add_left _ _)
theorem len_app (a b : Str) : (a ++ b).length = a.length + b.length := by
  show (a.cps ++ b.cps).size = a.cps.size + b.cps.size
  exact Array.size_append
theorem join_len (y : Str) : ∀ (xs : List Str) {x : Str}, x ∈ xs → x.length ≤ (Str.join y xs).length
  | [], _, h => by cases h
  | [z], x, h => by
    rcases List.mem_cons.mp h with rfl | h
    · exact Nat.le_refl _
    · cases h
  | z :: u :: r, x, h => by
    have e : Str.join y (z :: u :: r) = z ++ y ++ Str.join y (u :: r) := rfl
    rw [e, len_app, len_app]
    rcases List.mem_cons.mp h with rfl | h
    · omega
    · have := join_len y (u :: r) h
      omega
theorem split_le {a b x : Str} (h : x ∈ Txt.split a b) : x.length ≤ a.length := by
  have := join_len b (Txt.split a b) h
  rwa [PySem.StrLaws.join_split] at this
def stampIn (n : Int) (line : Str) : Option (Str × Str) := match ws line with
  | [a, b] => if (isName a && layerOf n b && !(b == dashes n)) = true then some (a, b) else none
  | _ => none
def optP : Option (Str × Str) → D
  | some (a, b) => .tup [.str a, .str b]
  | none => .non
theorem split_ok {line : Str} (h : Sm line) : mSplit (.str line) [.str " "] = some (.lst ((ws line).map .str)) := by
  have h2 : line.length + 2 ≤ sizeLine := by
    rw [sizeLine_eq]
    unfold Sm at h
    omega
  have h1 : ((" " : Str).length == 0) = false := rfl
  show (if ((" " : Str).length == 0) = false ∧ line.length + 2 ≤ sizeLine then some (NO.lst ((Txt.split line " ").map .str)) else none) = _
  rw [if_pos ⟨h1, h2⟩]
  rfl
theorem isLayer_of {n : Int} {b : Str} (h0 : 1 ≤ n) (h : n ≤ 30) : (isLayer b && decide ((b.length : Int) = n)) = layerOf n b := by
  unfold isLayer layerOf
  by_cases e : (b.length : Int) = n
  · have h1 : 1 ≤ b.length := by omega
    have h2 : b.length ≤ 30 := by omega
    simp -implicitDefEqProofs [e, h1, h2]
  · simp -implicitDefEqProofs [e]
theorem atI_one {α : Type} (x y : α) (xs : List α) : atI (x :: y :: xs) 1 = some y := by
  simp -implicitDefEqProofs [atI, ixN]
  rw [if_pos (by omega)]
  rfl
theorem stamp_in_is {n : Int} {line : Str} (h : Sm line) (h0 : 1 ≤ n) (h1 : n ≤ 30) : m_stamp_in c [.str line, .int n] = .ok (optP (stampIn n line)) := by
  unfold m_stamp_in fnD mm_stamp_in
  have sm : ∀ x ∈ ws line, x.length ≤ sizeLine := fun x hx => Nat.le_trans (split_le hx) h.le
  have eL := fun b => isLayer_of (b := b) h0 h1
  unfold stampIn
  have hsp := split_ok h
  match hw : ws line with
  | [] =>
    rw [hw] at hsp
    simp -implicitDefEqProofs [startX, hsp, sizeLine_eq, optP]
  | [a] =>
    rw [hw] at hsp
    simp -implicitDefEqProofs [startX, hsp, sizeLine_eq, optP]
  | a :: b :: d :: r =>
    rw [hw] at hsp
    have e : ¬ ((r.length : Int) + 1 + 1 + 1 = 2) := by omega
    simp -implicitDefEqProofs [startX, hsp, sizeLine_eq, optP, e]
  | [a, b] =>
    rw [hw] at hsp
    rw [hw] at sm
    have sa := sm a (by simp)
    have sb := sm b (by simp)
    have sb2 : b.length ≤ 16777216 := sizeLine_eq ▸ sb
    have e1 := is_name_is (c := c) a sa
    have e2 := is_layer_is (c := c) b sb
    have e3 := empty_layer_is (c := c) (n := n) (by omega) h1
    have eb := eL b
    cases hN : isName a <;> cases hL : isLayer b <;> by_cases hl : (b.length : Int) = n <;> cases hd : (b == dashes n) <;> rw [hL] at eb <;> simp -implicitDefEqProofs [hl] at eb <;> simp -implicitDefEqProofs [startX, hsp, sizeLine_eq, optP, atI_zero, atI_one, e1, e2, e3, hN, hL, hl, hd, sb2, eb]
end
end LK
set_option Elab.async false
set_option linter.all false
set_option maxRecDepth 100000
set_option maxHeartbeats 1000000
namespace LK
open PySem PySem.Spec PyProof.Rows L2 DL
set_option autoImplicit false
section
variable {c : Ad}
def isPair (line : Str) : Bool := match ws line with
  | [a, _, _] => a == "pair"
  | _ => false
theorem is_pair_line_is {line : Str} (h : Sm line) : m_is_pair_line c [.str line] = .ok (.bl (isPair line)) := by
  unfold m_is_pair_line fnD mm_is_pair_line isPair
  have hsp := split_ok h
  match hw : ws line with
  | [] =>
    rw [hw] at hsp
    simp -implicitDefEqProofs [startX, hsp, sizeLine_eq]
  | [a] =>
    rw [hw] at hsp
    simp -implicitDefEqProofs [startX, hsp, sizeLine_eq]
  | [a, b] =>
    rw [hw] at hsp
    simp -implicitDefEqProofs [startX, hsp, sizeLine_eq]
  | [a, b, d] =>
    rw [hw] at hsp
    simp -implicitDefEqProofs [startX, hsp, sizeLine_eq, atI_zero]
  | a :: b :: d :: e :: r =>
    rw [hw] at hsp
    have e : ((r.length : Int) + 1 + 1 + 1 + 1 == 3) = false := by simp; omega
    simp -implicitDefEqProofs [startX, hsp, sizeLine_eq, e]
theorem is_layer_of_is {n : Int} {b : Str} (hb : b.length ≤ sizeLine) (h0 : 1 ≤ n) (h1 : n ≤ 30) : m_is_layer_of c [.int n, .str b] = .ok (.bl (layerOf n b)) := by
  unfold m_is_layer_of fnD mm_is_layer_of
  have e2 := is_layer_is (c := c) b hb
  have eb := isLayer_of (b := b) h0 h1
  cases hL : isLayer b <;> by_cases hl : (b.length : Int) = n <;> rw [hL] at eb <;> simp -implicitDefEqProofs [hl] at eb <;> simp -implicitDefEqProofs [startX, e2, hL, hl, hb, eb]
def pairIn (n : Int) (line : Str) : Option (Str × Str) := match ws line with
  | [a, b, d] => if (a == "pair" && layerOf n b && layerOf n d) = true then some (b, d) else none
  | _ => none
theorem pair_in_is {n : Int} {line : Str} (h : Sm line) (h0 : 1 ≤ n) (h1 : n ≤ 30) : m_pair_in c [.str line, .int n] = .ok (optP (pairIn n line)) := by
  unfold m_pair_in fnD mm_pair_in
  have hp := is_pair_line_is (c := c) h
  have sm : ∀ x ∈ ws line, x.length ≤ sizeLine := fun x hx => Nat.le_trans (split_le hx) h.le
  have hsp := split_ok h
  unfold isPair at hp
  unfold pairIn
  match hw : ws line with
  | [] =>
    rw [hw] at hp
    simp -implicitDefEqProofs [startX, hp, optP]
  | [a] =>
    rw [hw] at hp
    simp -implicitDefEqProofs [startX, hp, optP]
  | [a, b] =>
    rw [hw] at hp
    simp -implicitDefEqProofs [startX, hp, optP]
  | a :: b :: d :: e :: r =>
    rw [hw] at hp
    simp -implicitDefEqProofs [startX, hp, optP]
  | [a, b, d] =>
    rw [hw] at hp hsp sm
    have e1 := is_layer_of_is (c := c) (n := n) (sm b (by simp)) h0 h1
    have e2 := is_layer_of_is (c := c) (n := n) (sm d (by simp)) h0 h1
    cases ha : (a == "pair") <;> cases hb : layerOf n b <;> cases hd : layerOf n d <;> simp -implicitDefEqProofs [startX, hp, hsp, ha, hb, hd, e1, e2, optP, sizeLine_eq, sAsg, gLstD, gsCons, gsNil]
end
end LK
set_option Elab.async false
set_option linter.all false
set_option maxRecDepth 100000
set_option maxHeartbeats 1000000
namespace LK
open PySem PySem.Spec PyProof.Rows L2 DL
set_option autoImplicit false
section
variable {c : Ad}
theorem str_ext {a b : Str} (h : a.cps.toList = b.cps.toList) : a = b := by
  cases a
  cases b
  simpa using h
theorem app_list (a b : Str) : (a ++ b).cps.toList = a.cps.toList ++ b.cps.toList := by
  show (a.cps ++ b.cps).toList = _
  simp
theorem starts_is {a p : Str} (h : Txt.startswith a p = true) : ∃ r, a = p ++ r := by
  unfold Txt.startswith at h
  rw [StrLaws.subAt_eq] at h
  simp -implicitDefEqProofs only [Bool.and_eq_true, decide_eq_true_eq, beq_iff_eq, List.drop_zero] at h
  refine ⟨⟨(a.cps.toList.drop p.length).toArray⟩, str_ext ?_⟩
  rw [app_list, ← h.2]
  simp
theorem starts_of (p r : Str) : Txt.startswith (p ++ r) p = true := by
  unfold Txt.startswith
  rw [StrLaws.subAt_eq, len_app, app_list]
  have : p.cps.toList.length = p.length := Array.length_toList
  simp -implicitDefEqProofs only [Bool.and_eq_true, decide_eq_true_eq, beq_iff_eq, List.drop_zero]
  refine ⟨by omega, ?_⟩
  rw [← this]
  simp
/-- a number written in at most two signs -/
def numIn (r : Str) : Option Int := if (decide (1 ≤ r.length) && decide (r.length ≤ 2) && r.cps.toList.all (fun x => inS x digits) && !(r.cps.toList.headD 0 == 48 && decide (1 < r.length))) = true then PySem.intText? r else none
def optI : Option Int → D
  | some i => .int i
  | none => .non
theorem lp_number (v : Str) (d : D) (x : Option Xv) : lp_number_in_1 c ⟨[some (.dat (.str v)), some (.dat d), x], []⟩ = if v.cps.toList.all (fun x => inS x digits) = true then .nx ⟨[some (.dat (.str v)), some (.dat d), lastX x (v.cps.toList.map sign)], []⟩ else .ret .non := by
  unfold lp_number_in_1
  simp -implicitDefEqProofs only [q_sFor, q_iItems, q_envB, List.map_cons, Option.bind_some, q_baseX_dat, q_eVar0, Rs.bind_ok, q_items_str, ofO_some, q_oX_ok]
  refine sign_loop (fun x => inS x digits) (fun x => ⟨[some (.dat (.str v)), some (.dat d), x], []⟩) (fun d x => rfl) (fun n => ?_) _ _
  unfold lb_number_in_1 digits
  by_cases h : inS n "0123456789" = true <;> simp -implicitDefEqProofs [h]
theorem sign_zero (x : Nat) : (((⟨#[x]⟩ : Str) == "0") = (x == 48)) := by
  by_cases h : x = 48
  · subst h
    decide
  · have e1 : ((⟨#[x]⟩ : Str) == "0") = false := beq_eq_false_iff_ne.mpr fun z => h (by
      have e : (⟨#[x]⟩ : Str).cps.toList = ("0" : Str).cps.toList := congrArg (fun s : Str => s.cps.toList) z
      have e : [x] = [48] := e
      exact (List.cons.inj e).1)
    rw [e1]
    simp -implicitDefEqProofs [h]
theorem int1 : ∀ x ∈ digits.cps.toList, (PySem.intText? ⟨#[x]⟩).isSome = true := by decide +kernel
theorem int2 : ∀ x ∈ digits.cps.toList, ∀ y ∈ digits.cps.toList, (PySem.intText? ⟨#[x, y]⟩).isSome = true := by decide +kernel
theorem two_signs {r : Str} (h1 : 1 ≤ r.length) (h2 : r.length ≤ 2) : (∃ x, r = ⟨#[x]⟩) ∨ ∃ x y, r = ⟨#[x, y]⟩ := by
  obtain ⟨⟨l⟩⟩ := r
  have h1 : 1 ≤ l.length := h1
  have h2 : l.length ≤ 2 := h2
  match l, h1, h2 with
  | [x], _, _ => exact .inl ⟨x, rfl⟩
  | [x, y], _, _ => exact .inr ⟨x, y, rfl⟩
theorem int_some {r : Str} (h1 : 1 ≤ r.length) (h2 : r.length ≤ 2) (hd : r.cps.toList.all (fun x => inS x digits) = true) : ∃ k, PySem.intText? r = some k := by
  rcases two_signs h1 h2 with ⟨x, rfl⟩ | ⟨x, y, rfl⟩
  · have hx : x ∈ digits.cps.toList := by simpa [inS] using hd
    exact Option.isSome_iff_exists.mp (int1 x hx)
  · have hx : x ∈ digits.cps.toList ∧ y ∈ digits.cps.toList := by simpa [inS] using hd
    exact Option.isSome_iff_exists.mp (int2 x hx.1 y hx.2)
theorem number_in_is {r : Str} (hr : Sm r) : m_number_in c [.str r, .int 2] = .ok (optI (numIn r)) := by
  unfold m_number_in fnD mm_number_in numIn
  have e1 : ((1 : Int) ≤ (r.length : Int)) ↔ 1 ≤ r.length := by omega
  have e2 : ((r.length : Int) ≤ 2) ↔ r.length ≤ 2 := by omega
  have e3 : ((1 : Int) < (r.length : Int)) ↔ 1 < r.length := by omega
  have hl := hr.le
  have hl6 : r.length ≤ 2 → r.length ≤ 640 := by omega
  by_cases h1 : 1 ≤ r.length
  · obtain ⟨x, xs, e⟩ := str_cons h1
    by_cases h2 : r.length ≤ 2
    · cases h3 : r.cps.toList.all (fun x => inS x digits) with
      | false =>
        have h3' := h3
        rw [e] at h3'
        simp -implicitDefEqProofs [startX, hl, h1, h2, e1, e2, optI, lp_number, h3, h3', -List.all_eq_true, -List.all_cons]
      | true =>
        obtain ⟨k, hk⟩ := int_some h1 h2 h3
        have h3' := h3
        rw [e] at h3'
        have hz := sign_zero x
        cases h4 : (x == 48) <;> rw [h4] at hz <;> by_cases h5 : 1 < r.length <;> simp -implicitDefEqProofs [startX, hl, h1, h2, e1, e2, e3, optI, lp_number, h3, h3', e, atI_zero, sign, hz, h4, h5, cInt, hk, hl6 h2, -List.all_eq_true, -List.all_cons]
    · simp -implicitDefEqProofs [startX, hl, h1, h2, e1, e2, optI]
  · simp -implicitDefEqProofs [startX, hl, h1, e1, optI]
end
end LK
set_option Elab.async false
set_option linter.all false
set_option maxRecDepth 100000
set_option maxHeartbeats 1000000
namespace LK
open PySem PySem.Spec PyProof.Rows L2 DL
set_option autoImplicit false
section
variable {c : Ad}
/-- what a text behind the word means as a size -/
def restSize (r : Str) : Option Int := (numIn r).bind fun k => if 1 ≤ k ∧ k ≤ 30 then some k else none
def word : Str := "stock "
def sizeIn (line : Str) : Option Int := if Txt.startswith line word = true then restSize ⟨(line.cps.toList.drop 6).toArray⟩ else none
theorem cut_six (line : Str) (h : 6 ≤ line.length) : cutS line (some 6) none = ⟨(line.cps.toList.drop 6).toArray⟩ := by
  unfold cutS
  have e1 : HT.sIx line.length 0 (some 6) = 6 := by
    have := HT.sIx_nat line.length 0 6
    rw [show ((6 : Nat) : Int) = 6 from rfl] at this
    rw [this]
    omega
  rw [e1, HT.sIx_none]
  congr 2
  apply List.take_of_length_le
  rw [List.length_drop, Array.length_toList]
  exact Nat.le_refl _
theorem drop_len (line : Str) : (⟨(line.cps.toList.drop 6).toArray⟩ : Str).length ≤ line.length := by
  show (line.cps.toList.drop 6).toArray.size ≤ line.cps.size
  simp
theorem size_in_is {line : Str} (h : Sm line) : m_size_in c [.str line] = .ok (optI (sizeIn line)) := by
  unfold m_size_in fnD mm_size_in sizeIn word
  have hl := h.le
  cases hs : Txt.startswith line "stock " with
  | false => simp -implicitDefEqProofs [startX, mStarts, hs, optI]
  | true =>
    have h6 : 6 ≤ line.length := by
      obtain ⟨r, e⟩ := starts_is hs
      rw [e, len_app]
      have : ("stock " : Str).length = 6 := by decide
      omega
    have l6 : ("stock " : Str).length = 6 := by decide
    have s6 : (6 : Nat) ≤ sizeLine := by rw [sizeLine_eq]; omega
    have hc := cut_six line h6
    have hr : Sm (⟨(line.cps.toList.drop 6).toArray⟩ : Str) := Nat.le_trans (drop_len line) h
    have hn := number_in_is (c := c) hr
    have hsl : dSl (.str line) (some 6) none = some (.str ⟨(line.cps.toList.drop 6).toArray⟩) := by
      show (if line.length ≤ sizeLine then some (D.str (cutS line (some 6) none)) else none) = _
      rw [if_pos hl, hc]
    unfold restSize
    generalize hk : numIn ⟨(line.cps.toList.drop 6).toArray⟩ = k at hn
    cases k with
    | none => simp -implicitDefEqProofs [startX, mStarts, hs, optI, l6, s6, hsl, hn, isNonD]
    | some k =>
      by_cases h1 : 1 ≤ k <;> by_cases h2 : k ≤ 30 <;> simp -implicitDefEqProofs [startX, mStarts, hs, optI, l6, s6, hsl, hn, isNonD, h1, h2]
end
end LK
set_option Elab.async false
set_option linter.all false
set_option maxRecDepth 100000
set_option maxHeartbeats 1000000
namespace LK
open PySem PySem.Spec PyProof.Rows L2 DL
set_option autoImplicit false
section
variable {c : Ad}
def fst (k : Nat) : Str := "stock " ++ toString ((k : Int) + 1)
def firstsL : List Str := (List.range 30).map fst
theorem firsts_idx : ∀ k : Nat, k < 30 → idxD (.str (fst k)) (firstsL.map .str) 0 = some k := by decide +kernel
theorem firsts_size : ∀ k : Nat, k < 30 → sizeIn (fst k) = some ((k : Int) + 1) := by decide +kernel
theorem rest1 : ∀ x ∈ digits.cps.toList, restSize ⟨#[x]⟩ = none ∨ ∃ k : Nat, k < 30 ∧ restSize ⟨#[x]⟩ = some ((k : Int) + 1) ∧ fst k = "stock " ++ (⟨#[x]⟩ : Str) := by decide +kernel
theorem rest2 : ∀ x ∈ digits.cps.toList, ∀ y ∈ digits.cps.toList, restSize ⟨#[x, y]⟩ = none ∨ ∃ k : Nat, k < 30 ∧ restSize ⟨#[x, y]⟩ = some ((k : Int) + 1) ∧ fst k = "stock " ++ (⟨#[x, y]⟩ : Str) := by decide +kernel
theorem size_is {line : Str} {n : Int} (h : sizeIn line = some n) : ∃ k : Nat, k < 30 ∧ n = (k : Int) + 1 ∧ line = fst k := by
  unfold sizeIn at h
  split at h
  · rename_i hs
    obtain ⟨r, e⟩ := starts_is hs
    have e2 : (⟨(line.cps.toList.drop 6).toArray⟩ : Str) = r := by
      rw [e]
      apply str_ext
      rw [app_list]
      have : word.cps.toList.length = 6 := by decide
      simp -implicitDefEqProofs [List.drop_append, this]
    rw [e2] at h
    have hn : numIn r ≠ none := fun z => by
      unfold restSize at h
      rw [z] at h
      cases h
    unfold numIn at hn
    split at hn
    · rename_i hc
      simp -implicitDefEqProofs only [Bool.and_eq_true, decide_eq_true_eq] at hc
      obtain ⟨⟨⟨h1, h2⟩, h3⟩, _⟩ := hc
      have key : restSize r = none ∨ ∃ k : Nat, k < 30 ∧ restSize r = some ((k : Int) + 1) ∧ fst k = "stock " ++ r := by
        rcases two_signs h1 h2 with ⟨x, rfl⟩ | ⟨x, y, rfl⟩
        · have hx : x ∈ digits.cps.toList := by simpa [inS] using h3
          exact rest1 x hx
        · have hx : x ∈ digits.cps.toList ∧ y ∈ digits.cps.toList := by simpa [inS] using h3
          exact rest2 x hx.1 y hx.2
      rcases key with z | ⟨k, hk, z1, z2⟩
      · rw [z] at h
        cases h
      · rw [z1] at h
        cases h
        exact ⟨k, hk, rfl, by rw [e]; exact z2.symm⟩
    · exact absurd rfl hn
  · cases h
theorem firsts_in (line : Str) : (firstsL.any fun z => z == line) = (sizeIn line).isSome := by
  cases h : sizeIn line with
  | some n =>
    obtain ⟨k, hk, _, e⟩ := size_is h
    subst e
    simp -implicitDefEqProofs only [Option.isSome_some, List.any_eq_true, beq_iff_eq]
    exact ⟨fst k, by unfold firstsL; exact List.mem_map.mpr ⟨k, List.mem_range.mpr hk, rfl⟩, rfl⟩
  | none =>
    simp -implicitDefEqProofs only [Option.isSome_none, List.any_eq_false, beq_iff_eq]
    intro z hz e
    subst e
    unfold firstsL at hz
    obtain ⟨k, hk, rfl⟩ := List.mem_map.mp hz
    rw [firsts_size k (List.mem_range.mp hk)] at h
    cases h
end
end LK
set_option Elab.async false
set_option linter.all false
set_option maxRecDepth 100000
set_option maxHeartbeats 1000000
namespace LK
open PySem PySem.Spec PyProof.Rows L2 DL
set_option autoImplicit false
section
variable {c : Ad}
def tupD (p : Str × Str) : D := .tup [.str p.1, .str p.2]
def tupsD (ps : List (Str × Str)) : List D := ps.map tupD
theorem atI_two {α : Type} (x y z : α) (xs : List α) : atI (x :: y :: z :: xs) 2 = some z := by
  simp -implicitDefEqProofs [atI, ixN]
  rw [if_pos (by omega)]
  rfl
/-- one line of a note behind the first -/
def step (n : Int) (most count : Nat) (line : Str) (st ps : List (Str × Str)) : Option (List (Str × Str) × List (Str × Str)) := match ws line with
  | [a, b] => if (decide (ps.length = 0) && !decide (st.length = most) && isName a && (layerOf n b && !(b == dashes n)) && !(st.any fun p => p.1 == a)) = true then some (st ++ [(a, b)], ps) else none
  | [a, b, d] => if (a == "pair" && layerOf n b && layerOf n d && !decide (ps.length = count)) = true then some (st, ps ++ [(b, d)]) else none
  | _ => none
def stX (l0 l1 l2 l3 l4 : D) (n : Int) (x8 x9 : Option Xv) (st ps : List (Str × Str)) : S :=
  ⟨[some (.dat l0), some (.dat l1), some (.dat l2), some (.dat l3), some (.dat l4), some (.dat (.int n)), some (.cell 0), some (.cell 1), x8, x9, none], [some (.lst ((tupsD st).map .dat)), some (.lst ((tupsD ps).map .dat))]⟩
theorem tupsD_len (ps : List (Str × Str)) : (tupsD ps).length = ps.length := by simp -implicitDefEqProofs [tupsD]
theorem tupsD_app (ps : List (Str × Str)) (p : Str × Str) : (tupsD ps).map Xv.dat ++ [.dat (tupD p)] = (tupsD (ps ++ [p])).map .dat := by simp -implicitDefEqProofs [tupsD]
def firstD : D → D
  | .tup (x :: _) => x
  | _ => .non
theorem in_names (a : Str) (st : List (Str × Str)) : dIn (.str a) (.lst ((tupsD st).map firstD)) = some (.bl (st.any fun p => p.1 == a)) := by
  have h1 : ((tupsD st).map firstD).all flatD = true := by
    unfold tupsD
    induction st with
    | nil => rfl
    | cons p ps ih => simpa [tupD, firstD, flatD] using ih
  have h2 : (((tupsD st).map firstD).any fun d => flatEq d (.str a)) = st.any fun p => p.1 == a := by
    unfold tupsD
    induction st with
    | nil => rfl
    | cons p ps ih =>
      rw [List.map_cons, List.map_cons, List.any_cons, List.any_cons, ih (by
        unfold tupsD at h1
        rw [List.map_cons, List.map_cons, List.all_cons] at h1
        simp -implicitDefEqProofs only [Bool.and_eq_true] at h1
        exact h1.2)]
      rfl
  unfold dIn inSeq
  dsimp only
  rw [h1, h2]
  rfl
theorem read_names (l0 l1 l2 l3 l4 l5 : D) (x6 x7 x8 x9 x10 : Option D) (st : List (Str × Str)) : lcL (cN 10) cTrue (le__law_read_2 c) (wipeE [some l0, some l1, some l2, some l3, some l4, some l5, x6, x7, x8, x9, x10] [10]) (tupsD st) = .ok ((tupsD st).map firstD) := by
  refine lc_map _ fun d hd => ?_
  obtain ⟨p, _, rfl⟩ := List.mem_map.mp hd
  simp -implicitDefEqProofs [le__law_read_2, wipeE, tupD, firstD, atI_zero]
theorem read_step {note : D} {most count k : Nat} {lines : List Str} {line : Str} {l4 : D} {n : Int} {x9 : Option Xv} {st ps : List (Str × Str)} (hl : Sm line) (hk : lines[k]? = some line) (h0 : 1 ≤ n) (h1 : n ≤ 30) (hs : st.length ≤ 100) (hp : ps.length ≤ 100) :
    lb__law_read_1 c (stX note (.int most) (.int count) (.lst (lines.map .str)) l4 n (some (.dat (.int k))) x9 st ps) =
      match step n most count line st ps with
      | some (st', ps') => .nx (stX note (.int most) (.int count) (.lst (lines.map .str)) l4 n (some (.dat (.int k))) (some (.dat (.lst ((ws line).map .str)))) st' ps')
      | none => .ret (.lst [.int k, .int n, .lst (tupsD st), .lst (tupsD ps)]) := by
  unfold lb__law_read_1 step stX
  have sm : ∀ x ∈ ws line, x.length ≤ sizeLine := fun x hx => Nat.le_trans (split_le hx) hl.le
  have hsp := split_ok hl
  have hk2 : atI (lines.map D.str) (k : Int) = some (.str line) := atI_nat (by rw [List.getElem?_map, hk]; rfl)
  match hw : ws line with
  | [] =>
    rw [hw] at hsp
    simp -implicitDefEqProofs [hk2, hsp, sizeLine_eq]
  | [a] =>
    rw [hw] at hsp
    simp -implicitDefEqProofs [hk2, hsp, sizeLine_eq]
  | [a, b] =>
    rw [hw] at hsp sm
    have e1 := law_is_layer_is (c := c) n b (sm b (by simp))
    have e2 := law_is_name_is (c := c) a (sm a (by simp))
    have hs2 : st.length < 16777216 := by omega
    have hs3 : st.length ≤ 16777216 := by omega
    have hm := mulOk_dash (n := n) (by omega) h1
    have hin := in_names a st
    have ep : ((0 : Int) < (ps.length : Int)) ↔ ¬ ps.length = 0 := by omega
    by_cases hps : ps.length = 0
    · by_cases hst : st.length = most
      · have ec : ((st.length : Int) == (most : Int)) = true := by simp -implicitDefEqProofs [hst]
        simp -implicitDefEqProofs [hk2, hsp, sizeLine_eq, atI_zero, atI_one, e1, e2, hps, hst, ec, tupsD_len, ep]
      · have ec : ((st.length : Int) == (most : Int)) = false := by
          simp
          omega
        cases ha : isName a
        · simp -implicitDefEqProofs [hk2, hsp, sizeLine_eq, atI_zero, atI_one, e1, e2, hps, hst, ec, tupsD_len, ep, ha]
        · cases hb : layerOf n b
          · simp -implicitDefEqProofs [hk2, hsp, sizeLine_eq, atI_zero, atI_one, e1, e2, hps, hst, ec, tupsD_len, ep, ha, hb, hm]
          · cases hd : (b == dashes n)
            · unfold dashes at hd
              cases hn : (st.any fun p => p.1 == a) <;> rw [hn] at hin <;> simp -implicitDefEqProofs [hk2, hsp, sizeLine_eq, atI_zero, atI_one, e1, e2, hps, hst, ec, tupsD_len, ep, ha, hb, hd, hm, q_eLc, read_names, hs3, hin, hn, hs2, ← tupsD_app, tupD, -List.any_eq_true, -List.any_eq_false, dashes]
            · unfold dashes at hd
              simp -implicitDefEqProofs [hk2, hsp, sizeLine_eq, atI_zero, atI_one, e1, e2, hps, hst, ec, tupsD_len, ep, ha, hb, hd, hm, dashes]
    · simp -implicitDefEqProofs [hk2, hsp, sizeLine_eq, atI_zero, atI_one, e1, e2, hps, tupsD_len, ep]
  | [a, b, d] =>
    rw [hw] at hsp sm
    have e1 := law_is_layer_is (c := c) n b (sm b (by simp))
    have e2 := law_is_layer_is (c := c) n d (sm d (by simp))
    have hp2 : ps.length < 16777216 := by omega
    by_cases hcn : ps.length = count
    · have ec : ((ps.length : Int) == (count : Int)) = true := by simp -implicitDefEqProofs [hcn]
      cases ha : (a == "pair") <;> cases hb : layerOf n b <;> cases hd : layerOf n d <;> simp -implicitDefEqProofs [hk2, hsp, sizeLine_eq, atI_zero, atI_one, atI_two, e1, e2, ha, hb, hd, hcn, ec, tupsD_len, hp2]
    · have ec : ((ps.length : Int) == (count : Int)) = false := by
        simp
        omega
      cases ha : (a == "pair") <;> cases hb : layerOf n b <;> cases hd : layerOf n d <;> simp -implicitDefEqProofs [hk2, hsp, sizeLine_eq, atI_zero, atI_one, atI_two, e1, e2, ha, hb, hd, hcn, ec, tupsD_len, hp2, ← tupsD_app, tupD]
  | a :: b :: d :: e :: r => 
    rw [hw] at hsp
    have e : ((r.length : Int) + 1 + 1 + 1 + 1 == 3) = false := by simp; omega
    have e2 : ((r.length : Int) + 1 + 1 + 1 + 1 == 2) = false := by simp; omega
    simp -implicitDefEqProofs [hk2, hsp, sizeLine_eq, e, e2]
end
end LK
set_option Elab.async false
set_option linter.all false
set_option maxRecDepth 100000
set_option maxHeartbeats 1000000
namespace LK
open PySem PySem.Spec PyProof.Rows L2 DL
set_option autoImplicit false
section
variable {c : Ad}
abbrev Tps := List (Str × Str)
def rd (n : Int) (most count : Nat) : List Str → Nat → Tps → Tps → (Nat × Tps × Tps) ⊕ (Tps × Tps)
  | [], _, st, ps => .inr (st, ps)
  | l :: ls, k, st, ps => match step n most count l st ps with
    | some (st', ps') => rd n most count ls (k + 1) st' ps'
    | none => .inl (k, st, ps)
theorem step_len {n : Int} {most count : Nat} {l : Str} {st ps st' ps' : Tps} (h : step n most count l st ps = some (st', ps')) (h1 : st.length ≤ most) (h2 : ps.length ≤ count) : st'.length ≤ most ∧ ps'.length ≤ count := by
  unfold step at h
  split at h
  · split at h
    · rename_i hc
      cases h
      simp -implicitDefEqProofs only [Bool.and_eq_true, Bool.not_eq_true', decide_eq_false_iff_not] at hc
      have := hc.1.1.1.2
      simp
      omega
    · cases h
  · split at h
    · rename_i hc
      cases h
      simp -implicitDefEqProofs only [Bool.and_eq_true, Bool.not_eq_true', decide_eq_false_iff_not] at hc
      have := hc.2
      simp
      omega
    · cases h
  · cases h
theorem read_loop {note : D} {most count : Nat} {lines : List Str} {l4 : D} {n : Int} (h0 : 1 ≤ n) (h1 : n ≤ 30) (hm : most ≤ 100) (hc : count ≤ 100) (hl : ∀ l ∈ lines, Sm l) :
    ∀ (rest pre : List Str) (x8 x9 : Option Xv) (st ps : Tps), lines = pre ++ rest → st.length ≤ most → ps.length ≤ count → ∃ y8 y9,
      forL (gN 8) (lb__law_read_1 c) (DL.upTo (pre.length : Nat) rest.length) (stX note (.int most) (.int count) (.lst (lines.map .str)) l4 n x8 x9 st ps) =
        match rd n most count rest pre.length st ps with
        | .inr (st', ps') => .nx (stX note (.int most) (.int count) (.lst (lines.map .str)) l4 n y8 y9 st' ps')
        | .inl (k, st', ps') => .ret (.lst [.int k, .int n, .lst (tupsD st'), .lst (tupsD ps')])
  | [], pre, x8, x9, st, ps, _, _, _ => ⟨x8, x9, rfl⟩
  | l :: ls, pre, x8, x9, st, ps, e, hs, hp => by
    have hk : lines[pre.length]? = some l := by rw [e]; simp
    have hS : Sm l := hl l (by rw [e]; simp)
    have hst := read_step (c := c) (note := note) (most := most) (count := count) (l4 := l4) (x9 := x9) (st := st) (ps := ps) hS hk h0 h1 (by omega) (by omega)
    rw [List.length_cons, upTo_cons]
    unfold forL
    have eg : gN 8 (.int (pre.length : Nat)) (stX note (.int most) (.int count) (.lst (lines.map .str)) l4 n x8 x9 st ps) = some (stX note (.int most) (.int count) (.lst (lines.map .str)) l4 n (some (.dat (.int (pre.length : Nat)))) x9 st ps) := rfl
    rw [eg]
    dsimp only
    rw [hst]
    unfold rd
    cases hq : step n most count l st ps with
    | none => exact ⟨none, none, rfl⟩
    | some g =>
      obtain ⟨st', ps'⟩ := g
      obtain ⟨a1, a2⟩ := step_len hq hs hp
      obtain ⟨y8, y9, ih⟩ := read_loop h0 h1 hm hc hl ls (pre ++ [l]) (some (.dat (.int (pre.length : Nat)))) (some (.dat (.lst ((ws l).map .str)))) st' ps' (by rw [e]; simp) a1 a2
      refine ⟨y8, y9, ?_⟩
      have e2 : ((pre ++ [l]).length : Nat) = pre.length + 1 := by simp
      rw [e2] at ih
      dsimp only
      have e3 : ((pre.length : Nat) : Int) + 1 = ((pre.length + 1 : Nat) : Int) := by omega
      rw [e3]
      exact ih
end
end LK
set_option Elab.async false
set_option linter.all false
set_option maxRecDepth 100000
set_option maxHeartbeats 1000000
namespace LK
open PySem PySem.Spec PyProof.Rows L2 DL
set_option autoImplicit false
section
variable {c : Ad}
theorem split_ne (a b : Str) : Txt.split a b ≠ [] := by
  unfold Txt.split
  split
  · simp
  · split
    · simp
    · intro h
      have := congrArg List.length h
      rw [PySem.length_partsBetween] at this
      simp at this
def nl (note : Str) : List Str := Txt.split note "\n"
theorem nl_ok {line : Str} (h : Sm line) : mSplit (.str line) [.str "\n"] = some (.lst ((nl line).map .str)) := by
  have h2 : line.length + 2 ≤ sizeLine := by
    rw [sizeLine_eq]
    unfold Sm at h
    omega
  have h1 : (("\n" : Str).length == 0) = false := rfl
  show (if (("\n" : Str).length == 0) = false ∧ line.length + 2 ≤ sizeLine then some (NO.lst ((Txt.split line "\n").map .str)) else none) = _
  rw [if_pos ⟨h1, h2⟩]
  rfl
theorem num_fin : ∀ i : Nat, i < 30 → ((toString (1 + (i : Int)) : Str).length ≤ 10 ∧ (1 + (i : Int)).natAbs.log2 < 1920) := by decide +kernel
theorem firsts_made (l0 l1 l2 l3 : D) (x4 x5 x6 x7 x8 x9 x10 : Option D) : lcL (cN 8) cTrue (le__law_read_1 c) (wipeE [some l0, some l1, some l2, some l3, x4, x5, x6, x7, x8, x9, x10] [8]) (DL.upTo 1 30) = .ok (firstsL.map .str) := by
  have h := lc_map (i := 8) (e := le__law_read_1 c) (δ := wipeE [some l0, some l1, some l2, some l3, x4, x5, x6, x7, x8, x9, x10] [8]) (g := fun d => match d with | .int i => .str ("stock " ++ toString i) | _ => .non) (DL.upTo 1 30) fun d hd => ?_
  · rw [h]
    rfl
  · unfold DL.upTo at hd
    obtain ⟨i, hi, rfl⟩ := List.mem_map.mp hd
    have hi := List.mem_range.mp hi
    have hf := num_fin i hi
    have h6 : ("stock " : Str).length = 6 := by decide
    have hz : 6 + (toString (1 + (i : Int)) : Str).length ≤ 16777216 := by omega
    simp -implicitDefEqProofs [le__law_read_1, wipeE, cStr, hf.2, h6, hz, sizeLine_eq]
    exact hz
end
end LK
set_option Elab.async false
set_option linter.all false
set_option maxRecDepth 100000
set_option maxHeartbeats 1000000
namespace LK
open PySem PySem.Spec PyProof.Rows L2 DL
set_option autoImplicit false
section
variable {c : Ad}
def readD (most count : Nat) (note : Str) : List D := match nl note with
  | [] => []
  | l0 :: ls => match sizeIn l0 with
    | none => [.int 0, .int 0, .lst [], .lst []]
    | some n => match rd n most count ls 1 [] [] with
      | .inl (k, st, ps) => [.int k, .int n, .lst (tupsD st), .lst (tupsD ps)]
      | .inr (st, ps) => [.non, .int n, .lst (tupsD st), .lst (tupsD ps)]
theorem firsts_dIn (line : Str) : dNotIn (.str line) (.lst (firstsL.map .str)) = some (.bl (!(sizeIn line).isSome)) := by
  have h1 : (firstsL.map D.str).all flatD = true := by simp -implicitDefEqProofs [List.all_map, Function.comp_def, flatD]
  have h2 : ((firstsL.map D.str).any fun d => flatEq d (.str line)) = (sizeIn line).isSome := by
    rw [← firsts_in, List.any_map]
    rfl
  unfold dNotIn inSeq
  dsimp only
  rw [h1, h2]
  rfl
theorem firsts_index {line : Str} {k : Nat} (hk : k < 30) (e : line = fst k) : mIndex (.lst (firstsL.map .str)) [.str line] = some (.int (k : Nat)) := by
  have h1 : (firstsL.map D.str).all flatD = true := by simp -implicitDefEqProofs [List.all_map, Function.comp_def, flatD]
  unfold mIndex
  dsimp only
  rw [h1, e, firsts_idx k hk]
  rfl
theorem nl_sm {note l : Str} (h : Sm note) (hl : l ∈ nl note) : Sm l := Nat.le_trans (split_le hl) h
theorem rg_small {n : Nat} (h : n ≤ 1000000) : rgOk (n : Int) = true := by
  unfold rgOk
  simp
  omega
theorem rg_one : rgOk 1 = true := rg_small (n := 1) (by omega)
theorem rg_31 : rgOk 31 = true := rg_small (n := 31) (by omega)
theorem rg_len {α : Type} {ls : List α} (h : ls.length ≤ 100002) : rgOk ((ls.length : Int) + 1) = true := rg_small (n := ls.length + 1) (by omega)
theorem rng_31 : rng2 [.int 1, .int 31] = some (DL.upTo 1 30) := by
  rw [q_rng2, if_pos (Bool.and_eq_true_iff.mpr ⟨rg_one, rg_31⟩)]
  rfl
theorem up30 : (DL.upTo 1 30).length ≤ 16777216 := by rw [← upTo_len]; omega
theorem join_count (y : Str) (hy : 1 ≤ y.length) : ∀ xs : List Str, xs.length ≤ (Str.join y xs).length + 1
  | [] => Nat.zero_le _
  | [z] => by simp
  | z :: u :: r => by
    have e : Str.join y (z :: u :: r) = z ++ y ++ Str.join y (u :: r) := rfl
    have ih := join_count y hy (u :: r)
    rw [e, len_app, len_app, List.length_cons]
    omega
theorem split_len (a b : Str) (hb : 1 ≤ b.length) : (Txt.split a b).length ≤ a.length + 1 := by
  have := join_count b hb (Txt.split a b)
  rwa [PySem.StrLaws.join_split] at this
theorem read_lp {note : D} {most count : Nat} {l0 : Str} {ls : List Str} {l4 : D} {n : Int} (h0 : 1 ≤ n) (h1 : n ≤ 30) (hm : most ≤ 100) (hc : count ≤ 100) (hlen : ls.length ≤ 100002) (hl : ∀ l ∈ l0 :: ls, Sm l) :
    ∃ y8 y9, lp__law_read_1 c (stX note (.int most) (.int count) (.lst (.str l0 :: ls.map .str)) l4 n none none [] []) = match rd n most count ls 1 [] [] with
      | .inr (st', ps') => .nx (stX note (.int most) (.int count) (.lst (.str l0 :: ls.map .str)) l4 n y8 y9 st' ps')
      | .inl (k, st', ps') => .ret (.lst [.int k, .int n, .lst (tupsD st'), .lst (tupsD ps')]) := by
  obtain ⟨y8, y9, hloop⟩ := read_loop (c := c) (note := note) (most := most) (count := count) (lines := l0 :: ls) (l4 := l4) (n := n) h0 h1 hm hc hl ls [l0] none none [] [] rfl (Nat.zero_le _) (Nat.zero_le _)
  refine ⟨y8, y9, ?_⟩
  have hup : (((ls.length + 1 : Nat) : Int) - 1).toNat = ls.length := by omega
  have hrg : (rgOk 1 && rgOk ((ls.length + 1 : Nat) : Int)) = true := Bool.and_eq_true_iff.mpr ⟨rg_one, rg_small (by omega)⟩
  have hit : (iRg rng2 (aCons (Rs.ok (.int 1)) (aCons (eCb cLen (aCons (eVar 3 (envB (stX note (.int most) (.int count) (.lst (.str l0 :: ls.map .str)) l4 n none none [] []))) (Rs.ok []))) (Rs.ok [])))) = .ok (DL.upTo 1 ls.length) := by
    unfold stX
    simp -implicitDefEqProofs only [q_envB, List.map_cons, Option.bind_some, q_baseX_dat, q_eVarS, q_eVar0, q_eCb, q_aCons, Rs.bind_ok, q_cLen, q_len_lst, Option.map_some, ofO_some, q_iRg, List.length_cons, List.length_map]
    rw [q_rng2, if_pos hrg, hup, ofO_some]
  unfold lp__law_read_1
  rw [q_sFor, hit]
  exact hloop
theorem read_end {note : D} {most count : Nat} {l3 l4 : D} {n : Int} (y8 y9 : Option Xv) (st ps : Tps) :
    endD (sSeq (sFrz 6) (sSeq (sFrz 7) (sRet (rB fun δ => (((nLst (aCons (Rs.ok .non) (aCons (eVar 5 δ) (aCons (eVar 6 δ) (aCons (eVar 7 δ) (Rs.ok []))))))).bind noD)))) (stX note (.int most) (.int count) l3 l4 n y8 y9 st ps)) = .ok (.lst [.non, .int n, .lst (tupsD st), .lst (tupsD ps)]) := by
  have hf6 : sFrz 6 (stX note (.int most) (.int count) l3 l4 n y8 y9 st ps) = .nx ⟨[some (.dat note), some (.dat (.int most)), some (.dat (.int count)), some (.dat l3), some (.dat l4), some (.dat (.int n)), some (.dat (.lst (tupsD st))), some (.cell 1), y8.map (subX 0 (.lst (tupsD st))), y9.map (subX 0 (.lst (tupsD st))), none], [none, some (.lst ((tupsD ps).map .dat))]⟩ := by
    unfold stX
    rw [sFrz_lst (k := 0) (ds := tupsD st) rfl rfl]
    simp -implicitDefEqProofs [cutK, subO_lst]
  have hf7 : sFrz 7 ⟨[some (.dat note), some (.dat (.int most)), some (.dat (.int count)), some (.dat l3), some (.dat l4), some (.dat (.int n)), some (.dat (.lst (tupsD st))), some (.cell 1), y8.map (subX 0 (.lst (tupsD st))), y9.map (subX 0 (.lst (tupsD st))), none], [none, some (.lst ((tupsD ps).map .dat))]⟩ = .nx ⟨[some (.dat note), some (.dat (.int most)), some (.dat (.int count)), some (.dat l3), some (.dat l4), some (.dat (.int n)), some (.dat (.lst (tupsD st))), some (.dat (.lst (tupsD ps))), (y8.map (subX 0 (.lst (tupsD st)))).map (subX 1 (.lst (tupsD ps))), (y9.map (subX 0 (.lst (tupsD st)))).map (subX 1 (.lst (tupsD ps))), none], [none]⟩ := by
    rw [sFrz_lst (k := 1) (ds := tupsD ps) rfl rfl]
    simp -implicitDefEqProofs [cutK]
  simp -implicitDefEqProofs only [q_sSeq, q_seq_nx, hf6, hf7, q_sRet]
  simp -implicitDefEqProofs [sizeLine_eq]
theorem law_read_is {note : Str} {most count : Nat} (h : Sm note) (hm : most ≤ 100) (hc : count ≤ 100) : m__law_read c [.str note, .int most, .int count] = .ok (.lst (readD most count note)) := by
  unfold m__law_read fnD mm__law_read readD
  have hsp := nl_ok h
  match hw : nl note with
  | [] => exact absurd hw (split_ne _ _)
  | l0 :: ls =>
    rw [hw] at hsp
    have hlen : ls.length ≤ 100002 := by
      have := split_len note "\n" (by decide)
      have e : (nl note).length = ls.length + 1 := by rw [hw]; rfl
      unfold nl at e
      unfold Sm at h
      omega
    have s0 : startX 11 [.str note, .int most, .int count] = ⟨[some (.dat (.str note)), some (.dat (.int most)), some (.dat (.int count)), none, none, none, none, none, none, none, none], []⟩ := rfl
    have s3 : sSet 3 (xB fun δ => (((nMb "str" mSplit (eVar 0 δ) (aCons (Rs.ok (.str "\n")) (Rs.ok [])))).bind noD)) (startX 11 [.str note, .int most, .int count]) = .nx ⟨[some (.dat (.str note)), some (.dat (.int most)), some (.dat (.int count)), some (.dat (.lst (.str l0 :: ls.map .str))), none, none, none, none, none, none, none], []⟩ := by
      rw [s0]
      simp -implicitDefEqProofs [hsp]
    rw [if_pos (by rfl), seq_nx s3]
    have s4 : sSet 4 (xB fun δ => (((eLc [8] (cN 8) cTrue (le__law_read_1 c) δ (iRg rng2 (aCons (Rs.ok (.int 1)) (aCons (Rs.ok (.int 31)) (Rs.ok [])))))).bind noD)) ⟨[some (.dat (.str note)), some (.dat (.int most)), some (.dat (.int count)), some (.dat (.lst (.str l0 :: ls.map .str))), none, none, none, none, none, none, none], []⟩ = .nx ⟨[some (.dat (.str note)), some (.dat (.int most)), some (.dat (.int count)), some (.dat (.lst (.str l0 :: ls.map .str))), some (.dat (.lst (firstsL.map .str))), none, none, none, none, none, none], []⟩ := by
      have hr := rng_31
      have h30' := up30
      simp -implicitDefEqProofs [q_eLc, hr, h30', firsts_made, sizeLine_eq]
    rw [seq_nx s4]
    generalize hF : firstsL.map D.str = F at *
    have hin := firsts_dIn l0
    rw [hF] at hin
    cases hsz : sizeIn l0 with
    | none =>
      rw [hsz] at hin
      simp -implicitDefEqProofs [atI_zero, hin, sizeLine_eq, hsz]
    | some n =>
      rw [hsz] at hin
      obtain ⟨k, hk, en, el⟩ := size_is hsz
      have hix := firsts_index hk el
      rw [hF] at hix
      obtain ⟨y8, y9, hlp⟩ := read_lp (c := c) (note := .str note) (most := most) (count := count) (l0 := l0) (ls := ls) (l4 := .lst F) (n := n) (by omega) (by omega) hm hc hlen (fun l hl => nl_sm h (by rw [hw]; exact hl))
      have hn : (1 : Int) + (k : Nat) = n := by omega
      have hst0 : (⟨[some (.dat (.str note)), some (.dat (.int most)), some (.dat (.int count)), some (.dat (.lst (.str l0 :: ls.map .str))), some (.dat (.lst F)), some (.dat (.int n)), some (.cell 0), some (.cell 1), none, none, none], [some (.lst []), some (.lst [])]⟩ : S) = stX (.str note) (.int most) (.int count) (.lst (.str l0 :: ls.map .str)) (.lst F) n none none [] [] := rfl
      refine (congrArg endD (seq_skip ?_)).trans ?_
      · simp -implicitDefEqProofs [atI_zero, hin]
      have s5 : sSet 5 (xB fun δ => (e2 dAdd (Rs.ok (.int 1)) (eMb "list" mIndex (eVar 4 δ) (aCons (e2 dIx (eVar 3 δ) (Rs.ok (.int 0))) (Rs.ok []))))) ⟨[some (.dat (.str note)), some (.dat (.int most)), some (.dat (.int count)), some (.dat (.lst (.str l0 :: ls.map .str))), some (.dat (.lst F)), none, none, none, none, none, none], []⟩ = .nx ⟨[some (.dat (.str note)), some (.dat (.int most)), some (.dat (.int count)), some (.dat (.lst (.str l0 :: ls.map .str))), some (.dat (.lst F)), some (.dat (.int n)), none, none, none, none, none], []⟩ := by
        simp -implicitDefEqProofs [atI_zero, hix, hn]
      rw [seq_nx s5]
      have s6 : sNew 6 (nB fun δ => (nLst (Rs.ok []))) ⟨[some (.dat (.str note)), some (.dat (.int most)), some (.dat (.int count)), some (.dat (.lst (.str l0 :: ls.map .str))), some (.dat (.lst F)), some (.dat (.int n)), none, none, none, none, none], []⟩ = .nx ⟨[some (.dat (.str note)), some (.dat (.int most)), some (.dat (.int count)), some (.dat (.lst (.str l0 :: ls.map .str))), some (.dat (.lst F)), some (.dat (.int n)), some (.cell 0), none, none, none, none], [some (.lst [])]⟩ := by
        simp -implicitDefEqProofs [sizeLine_eq]
      rw [seq_nx s6]
      have s7 : sNew 7 (nB fun δ => (nLst (Rs.ok []))) ⟨[some (.dat (.str note)), some (.dat (.int most)), some (.dat (.int count)), some (.dat (.lst (.str l0 :: ls.map .str))), some (.dat (.lst F)), some (.dat (.int n)), some (.cell 0), none, none, none, none], [some (.lst [])]⟩ = .nx (stX (.str note) (.int most) (.int count) (.lst (.str l0 :: ls.map .str)) (.lst F) n none none [] []) := by
        rw [← hst0]
        simp -implicitDefEqProofs [sizeLine_eq]
      rw [seq_nx s7]
      cases hrd : rd n most count ls 1 [] [] with
      | inl g =>
        obtain ⟨k', st, ps⟩ := g
        rw [hrd] at hlp
        rw [q_sSeq, hlp, q_seq_ret, q_endD_ret]
        simp only [hsz, hrd]
      | inr g =>
        obtain ⟨st, ps⟩ := g
        rw [hrd] at hlp
        rw [q_sSeq, hlp, q_seq_nx]
        simp only [hsz, hrd]
        exact read_end y8 y9 st ps
end
end LK
set_option Elab.async false
set_option linter.all false
set_option maxRecDepth 100000
set_option maxHeartbeats 1000000
namespace LK
open PySem PySem.Spec PyProof.Rows L2 DL
set_option autoImplicit false
section
variable {c : Ad}
/-! ### stocks made -/
def okSt (n : Int) (p : Str × Str) : Bool := isName p.1 && layerOf n p.2 && !(p.2 == dashes n)
/-- a pair as a list or a tuple -/
def pairD (b : Bool) (p : Str × Str) : D := if b = true then .lst [.str p.1, .str p.2] else .tup [.str p.1, .str p.2]
theorem frozen_str (k : Nat) (s : Str) : m_frozen c (k + 1) [.str s] = .ok (.str s) := by
  unfold m_frozen fnD mg_frozen
  simp -implicitDefEqProofs [startX]
theorem frozen_pair (k : Nat) (b : Bool) (p : Str × Str) : m_frozen c (k + 2) [pairD b p] = .ok (tupD p) := by
  have h := frozen_str (c := c) k
  unfold m_frozen fnD mg_frozen pairD tupD
  cases b <;> simp -implicitDefEqProofs [startX, q_eLc, lcL, wipeE, cN, cTrue, le_frozen_1, h, cTuple, sizeLine_eq]
theorem frozen_pairs (b : Bool) (ps : List (Str × Str)) (h : ps.length ≤ 100) : m_frozen c 4 [.lst (ps.map (pairD b))] = .ok (.tup (tupsD ps)) := by
  have h1 : lcL (cN 1) cTrue (le_frozen_1 c (m_frozen c 3)) (wipeE [some (.lst (ps.map (pairD b))), none] [1]) (ps.map (pairD b)) = .ok (ps.map tupD) :=
    lc_mapA ps fun p _ => by
      have h := frozen_pair (c := c) 1 b p
      simp -implicitDefEqProofs [le_frozen_1, wipeE, h]
  unfold m_frozen fnD mg_frozen
  have h2 : ps.length ≤ 16777216 := by omega
  simp -implicitDefEqProofs [startX, q_eLc, h1, cTuple, sizeLine_eq, h2, tupsD]
theorem is_stamp_is {n : Int} {b : Str} (hb : b.length ≤ sizeLine) (h0 : 1 ≤ n) (h1 : n ≤ 30) : m_is_stamp c [.str b, .int n] = .ok (.bl (layerOf n b && !(b == dashes n))) := by
  unfold m_is_stamp fnD mm_is_stamp
  have e2 := is_layer_is (c := c) b hb
  have e3 := empty_layer_is (c := c) (n := n) (by omega) h1
  have eb := isLayer_of (b := b) h0 h1
  cases hL : isLayer b <;> by_cases hl : (b.length : Int) = n <;> cases hd : (b == dashes n) <;> rw [hL] at eb <;> simp -implicitDefEqProofs [hl] at eb <;> simp -implicitDefEqProofs [startX, e2, e3, hL, hl, hb, eb, hd]
def numb : Nat → Tps → List (Key × D)
  | _, [] => []
  | k, p :: ps => (.inr p.1, .int (k : Nat)) :: numb (k + 1) ps
theorem numb_app : ∀ (k : Nat) (ps : Tps) (p : Str × Str), numb k (ps ++ [p]) = numb k ps ++ [(.inr p.1, .int ((k + ps.length : Nat) : Int))]
  | k, [], p => rfl
  | k, q :: ps, p => by
    rw [List.cons_append]
    unfold numb
    rw [numb_app (k + 1) ps p, List.cons_append, List.length_cons]
    have : k + 1 + ps.length = k + (ps.length + 1) := by omega
    rw [this]
theorem numb_any (a : Str) : ∀ (k : Nat) (ps : Tps), ((numb k ps).any fun kv => decide (kv.1 = .inr a)) = ps.any fun q => q.1 == a
  | k, [] => rfl
  | k, q :: ps => by
    unfold numb
    rw [List.any_cons, List.any_cons, numb_any a (k + 1) ps]
    congr 1
    by_cases h : q.1 = a <;> simp -implicitDefEqProofs [h]
theorem numb_len : ∀ (k : Nat) (ps : Tps), (numb k ps).length = ps.length
  | _, [] => rfl
  | k, q :: ps => by
    unfold numb
    rw [List.length_cons, List.length_cons, numb_len (k + 1) ps]
theorem in_numb (a : Str) (ps : Tps) : dInDic (.str a) (.dic (numb 0 ps)) = some (.bl (ps.any fun q => q.1 == a)) := by
  have h : (valD (numb 0 ps) (.inr a)).isSome = ps.any fun q => q.1 == a := by
    rw [← numb_any a 0 ps]
    unfold valD
    rw [Option.isSome_map, List.isSome_find?]
  show (some (valD (numb 0 ps) (.inr a)).isSome).map D.bl = _
  rw [h]
  rfl
def cellN (ps : Tps) : List (Key × Xv) := (numb 0 ps).map fun p => (p.1, .dat p.2)
theorem put_numb (ps : Tps) (p : Str × Str) (h : (ps.any fun q => q.1 == p.1) = false) : putX (cellN ps) (.inr p.1) (.dat (.int (ps.length : Nat))) = cellN (ps ++ [p]) := by
  unfold putX cellN
  have h1 : (((numb 0 ps).map fun p : Key × D => (p.1, Xv.dat p.2)).any fun kv => decide (kv.1 = .inr p.1)) = false := by
    rw [List.any_map, ← h, ← numb_any p.1 0 ps]
    rfl
  rw [h1, numb_app]
  simp
def stI (c : Ad) (n : Int) (d : D) (all : Tps) (x5 x6 : Option Xv) (pre : Tps) : S :=
  ⟨[some (.cell 0), some (.dat (.int n)), some (.dat d), some (.dat (.tup (tupsD all))), some (.cell 1), x5, x6], [some (.ins c.Stock []), some (.dic (cellN pre))]⟩
def fresh1 (pre : Tps) (p : Str × Str) : Bool := !(pre.any fun q => q.1 == p.1)
def allFresh : Tps → Tps → Bool
  | _, [] => true
  | pre, p :: ps => fresh1 pre p && allFresh (pre ++ [p]) ps
theorem init_loop {n : Int} {d : D} (h0 : 1 ≤ n) (h1 : n ≤ 30) (all : Tps) : ∀ (rest pre : Tps) (x5 x6 : Option Xv), pre.length + rest.length ≤ 100 → (∀ p ∈ rest, okSt n p = true ∧ p.1.length ≤ sizeLine ∧ p.2.length ≤ sizeLine) → allFresh pre rest = true →
    ∃ y5 y6, forL (gTupD 2 (gsCons (gN 5) (gsCons (gN 6) gsNil))) (lb_Stock___init___1 c) (numD (pre.length : Nat) (tupsD rest)) (stI c n d all x5 x6 pre) = .nx (stI c n d all y5 y6 (pre ++ rest))
  | [], pre, x5, x6, _, _, _ => ⟨x5, x6, by rw [List.append_nil]; rfl⟩
  | p :: rest, pre, x5, x6, hlen, hok, hf => by
    obtain ⟨o1, o2, o3⟩ := hok p (List.mem_cons_self ..)
    unfold allFresh fresh1 at hf
    rw [Bool.and_eq_true] at hf
    obtain ⟨f1, f2⟩ := hf
    unfold okSt at o1
    rw [Bool.and_assoc, Bool.and_eq_true] at o1
    have e1 := is_name_is (c := c) p.1 o2
    have e2 := is_stamp_is (c := c) (n := n) o3 h0 h1
    rw [o1.1] at e1
    rw [o1.2] at e2
    have hin := in_numb p.1 pre
    have hn : (pre.any fun q => q.1 == p.1) = false := by simpa using f1
    rw [hn] at hin
    have hput := put_numb pre p hn
    have hl : (cellN pre).length < sizeLine := by
      unfold cellN
      rw [List.length_map, numb_len, sizeLine_eq]
      rw [List.length_cons] at hlen
      omega
    obtain ⟨y5, y6, ih⟩ := init_loop h0 h1 all rest (pre ++ [p]) (some (.dat (.int (pre.length : Nat)))) (some (.dat (tupD p))) (by simp at hlen ⊢; omega) (fun q hq => hok q (List.mem_cons_of_mem _ hq)) f2
    refine ⟨y5, y6, ?_⟩
    have et : tupsD (p :: rest) = tupD p :: tupsD rest := rfl
    rw [et, numD_cons]
    unfold forL
    have hb : lb_Stock___init___1 c (stI c n d all (some (.dat (.int (pre.length : Nat)))) (some (.dat (tupD p))) pre) = .nx (stI c n d all (some (.dat (.int (pre.length : Nat)))) (some (.dat (tupD p))) (pre ++ [p])) := by
      unfold lb_Stock___init___1 stI tupD
      have ev : ∀ m, viewO m 2 (some (some (OO.dic (cellN pre)))) = some (.dic (numb 0 pre)) := fun m => q_viewO_dic m 2 (numb 0 pre)
      simp -implicitDefEqProofs [atI_zero, atI_one, e1, e2, ev, hin, sDPutX, keyX, hl, hput]
    have hg : gTupD 2 (gsCons (gN 5) (gsCons (gN 6) gsNil)) (.tup [.int (pre.length : Nat), tupD p]) (stI c n d all x5 x6 pre) = some (stI c n d all (some (.dat (.int (pre.length : Nat)))) (some (.dat (tupD p))) pre) := rfl
    rw [hg]
    dsimp only
    rw [hb]
    dsimp only
    have e3 : ((pre.length : Nat) : Int) + 1 = (((pre ++ [p]).length : Nat) : Int) := by simp
    rw [e3, ih, List.append_assoc]
    rfl
end
end LK
set_option Elab.async false
set_option linter.all false
set_option maxRecDepth 100000
set_option maxHeartbeats 1000000
namespace LK
open PySem PySem.Spec PyProof.Rows L2 DL
set_option autoImplicit false
section
variable {c : Ad}
def goodP (n : Int) (p : Str × Str) : Prop := okSt n p = true ∧ p.1.length ≤ sizeLine ∧ p.2.length ≤ sizeLine
def stockF (n : Int) (st : Tps) : List (Str × D) := [("size", .int n), ("stamps", .tup (tupsD st)), ("layers", .tup (st.map fun p => .str p.2)), ("numbers", .dic (numb 0 st))]
def stockD (c : Ad) (n : Int) (st : Tps) : D := .ins c.Stock (stockF n st)
theorem layers_of (l0 l1 l2 : D) (x4 x5 : Option D) (st : Tps) : lcL (cN 6) cTrue (le_Stock___init___1 c) [none, some l0, some l1, some l2, x4, x5, none] (tupsD st) = .ok (st.map fun p => .str p.2) :=
  lc_mapA st fun p _ => by simp -implicitDefEqProofs [le_Stock___init___1, tupD, atI_one]
theorem ne_size_stamps : (("size" : Str) = "stamps") = False := eq_false (by decide)
theorem ne_size_layers : (("size" : Str) = "layers") = False := eq_false (by decide)
theorem ne_size_numbers : (("size" : Str) = "numbers") = False := eq_false (by decide)
theorem ne_stamps_layers : (("stamps" : Str) = "layers") = False := eq_false (by decide)
theorem ne_stamps_numbers : (("stamps" : Str) = "numbers") = False := eq_false (by decide)
theorem ne_layers_numbers : (("layers" : Str) = "numbers") = False := eq_false (by decide)
theorem init_ok {n : Int} {d : D} {st : Tps} (hd : m_frozen c 4 [d] = .ok (.tup (tupsD st))) (h0 : 1 ≤ n) (h1 : n ≤ 30) (hl : st.length ≤ 100) (hg : ∀ p ∈ st, goodP n p) (hf : allFresh [] st = true) :
    m_Stock___init__ c [.int n, d] = .ok (stockF n st) := by
  obtain ⟨y5, y6, hloop⟩ := init_loop (c := c) (n := n) (d := d) h0 h1 st st [] none none (by simpa using hl) hg hf
  have hlp : lp_Stock___init___1 c (stI c n d st none none []) = .nx (stI c n d st y5 y6 st) := by
    unfold lp_Stock___init___1
    rw [q_sFor]
    have hit : iEnumL 0 (eVar 3 (envB (stI c n d st none none []))) = .ok (numD 0 (tupsD st)) := by
      unfold stI
      simp -implicitDefEqProofs [iEnumL, enumOf]
    rw [hit]
    exact hloop
  have hfz : sFrz 4 (stI c n d st y5 y6 st) = .nx ⟨[some (.cell 0), some (.dat (.int n)), some (.dat d), some (.dat (.tup (tupsD st))), some (.dat (.dic (numb 0 st))), y5.map (subX 1 (.dic (numb 0 st))), y6.map (subX 1 (.dic (numb 0 st)))], [some (.ins c.Stock [])]⟩ := by
    unfold stI
    rw [sFrz_dic (k := 1) (ds := numb 0 st) rfl rfl]
    simp -implicitDefEqProofs [cutK]
  unfold m_Stock___init__ fnI mm_Stock___init__
  have hs : startI c.Stock 7 [.int n, d] = ⟨[some (.cell 0), some (.dat (.int n)), some (.dat d), none, none, none, none], [some (.ins c.Stock [])]⟩ := rfl
  have hst0 : (⟨[some (.cell 0), some (.dat (.int n)), some (.dat d), some (.dat (.tup (tupsD st))), some (.cell 1), none, none], [some (.ins c.Stock []), some (.dic [])]⟩ : S) = stI c n d st none none [] := rfl
  have hlen : (tupsD st).length ≤ 16777216 := by
    rw [tupsD_len]
    omega
  simp -implicitDefEqProofs [hs, hd, hst0, hlp, hfz, sFldP, putFX, q_eLc, wipeE, layers_of, sizeLine_eq, hlen, endI, datF, stockF, ne_size_stamps, ne_size_layers, ne_size_numbers, ne_stamps_layers, ne_stamps_numbers, ne_layers_numbers]
/-! ### a stock read -/
def rdS (n : Int) (most : Nat) : List Str → Nat → Tps → Nat ⊕ Tps
  | [], _, st => .inr st
  | l :: ls, k, st => match stampIn n l with
    | some p => if ((st.any fun q => q.1 == p.1) || decide (most < k)) = true then .inl k else rdS n most ls (k + 1) (st ++ [p])
    | none => .inl k
def xNote (c : Ad) (k : Nat) : Xn := ⟨c.BadNote, [("line", .int k)]⟩
def stS (d : D) (most : Nat) (n : Int) (x5 x6 x7 : Option Xv) (st : Tps) : S :=
  ⟨[some (.dat d), some (.dat (.int most)), some (.dat (.int n)), some (.cell 0), some (.cell 1), x5, x6, x7], [some (.lst ((tupsD st).map .dat)), some (.kset (st.map fun p => .inr p.1))]⟩
theorem q_tIn (neg : Bool) (me mo : S → Rs Xv) (s : S) : tIn neg me mo s = (me s).bind fun x => (mo s).bind fun c => match keyX x, cellOf s c with
  | some key, some (_, .kset ks) => .ok (if neg then !(ks.any fun q => decide (q = key)) else ks.any fun q => decide (q = key))
  | _, _ => .bad := rfl
theorem keys_any (a : Str) (st : Tps) : ((st.map fun p => (.inr p.1 : Key)).any fun q => decide (q = .inr a)) = st.any fun p => p.1 == a := by
  rw [List.any_map]
  congr 1
  funext p
  by_cases h : p.1 = a <;> simp -implicitDefEqProofs [h]
theorem stock_loop {d : D} {most : Nat} {n : Int} (h0 : 1 ≤ n) (h1 : n ≤ 30) (hm : most ≤ 100) : ∀ (rest : List Str) (st : Tps) (x5 x6 x7 : Option Xv), (∀ l ∈ rest, Sm l) → st.length ≤ most →
    match rdS n most rest (st.length + 1) st with
    | .inr st' => ∃ y5 y6 y7, forL (gTupD 2 (gsCons (gN 5) (gsCons (gN 6) gsNil))) (lb_stock_in_1 c) (numD ((st.length + 1 : Nat) : Int) (rest.map .str)) (stS d most n x5 x6 x7 st) = .nx (stS d most n y5 y6 y7 st')
    | .inl j => ∃ s, forL (gTupD 2 (gsCons (gN 5) (gsCons (gN 6) gsNil))) (lb_stock_in_1 c) (numD ((st.length + 1 : Nat) : Int) (rest.map .str)) (stS d most n x5 x6 x7 st) = .exc (xNote c j) s
  | [], st, x5, x6, x7, _, _ => ⟨x5, x6, x7, rfl⟩
  | l :: rest, st, x5, x6, x7, hS, hl => by
    have hl1 := stamp_in_is (c := c) (n := n) (hS l (List.mem_cons_self ..)) h0 h1
    have hg : gTupD 2 (gsCons (gN 5) (gsCons (gN 6) gsNil)) (.tup [.int ((st.length + 1 : Nat) : Int), .str l]) (stS d most n x5 x6 x7 st) = some (stS d most n (some (.dat (.int ((st.length + 1 : Nat) : Int)))) (some (.dat (.str l))) x7 st) := rfl
    have hsl : st.length ≤ 100 := by omega
    have hlt : (tupsD st).length < sizeLine := by
      rw [tupsD_len, sizeLine_eq]
      omega
    have hsc : (st.map fun p => (.inr p.1 : Key)).length + 1 < scanBound := by
      rw [List.length_map]
      have : 1000 < scanBound := by decide
      omega
    have hsc2 : st.length + 1 < scanBound := by simpa using hsc
    have hgt : ((most : Int) < ((st.length + 1 : Nat) : Int)) ↔ most < st.length + 1 := by omega
    rw [List.map_cons, numD_cons]
    unfold forL
    rw [hg]
    dsimp only
    unfold rdS
    cases hp : stampIn n l with
    | none =>
      rw [hp] at hl1
      have hb : lb_stock_in_1 c (stS d most n (some (.dat (.int ((st.length + 1 : Nat) : Int)))) (some (.dat (.str l))) x7 st) = .exc (xNote c (st.length + 1)) (stS d most n (some (.dat (.int ((st.length + 1 : Nat) : Int)))) (some (.dat (.str l))) (some (.dat .non)) st) := by
        unfold lb_stock_in_1 stS
        simp -implicitDefEqProofs [hl1, optP, isNonD, xNote]
      dsimp only
      rw [hb]
      exact ⟨_, rfl⟩
    | some p =>
      rw [hp] at hl1
      have ho : optP (some p) = .tup [.str p.1, .str p.2] := rfl
      rw [ho] at hl1
      have hk := keys_any p.1 st
      dsimp only
      cases ha : (st.any fun q => q.1 == p.1) with
      | true =>
        rw [ha] at hk
        have hb : lb_stock_in_1 c (stS d most n (some (.dat (.int ((st.length + 1 : Nat) : Int)))) (some (.dat (.str l))) x7 st) = .exc (xNote c (st.length + 1)) (stS d most n (some (.dat (.int ((st.length + 1 : Nat) : Int)))) (some (.dat (.str l))) (some (.dat (.tup [.str p.1, .str p.2]))) st) := by
          unfold lb_stock_in_1 stS
          simp -implicitDefEqProofs only [q_sSeq, q_sSet, q_xB, q_envB, List.map_cons, Option.bind_some, q_baseX_dat, q_baseX_cell, q_aCons, q_eVar0, q_eVarS, Rs.bind_ok, hl1, q_oX_ok, q_put, List.set_cons_succ, List.set_cons_zero, q_seq_nx, q_sIf, q_tOrS, q_tBs, q_e2, ofO_some, q_isN, isNonD, q_toB, if_false, q_tIn, q_ix_tup, atI_zero, q_xC, List.getElem?_cons_succ, List.getElem?_cons_zero, q_cellAt, q_cellOf, keyX, hk, q_sRaise]
          simp -implicitDefEqProofs [xNote]
        simp -implicitDefEqProofs only [Bool.true_or, if_true]
        rw [hb]
        exact ⟨_, rfl⟩
      | false =>
        rw [ha] at hk
        by_cases hmk : most < st.length + 1
        · have hb : lb_stock_in_1 c (stS d most n (some (.dat (.int ((st.length + 1 : Nat) : Int)))) (some (.dat (.str l))) x7 st) = .exc (xNote c (st.length + 1)) (stS d most n (some (.dat (.int ((st.length + 1 : Nat) : Int)))) (some (.dat (.str l))) (some (.dat (.tup [.str p.1, .str p.2]))) st) := by
            unfold lb_stock_in_1 stS
            simp -implicitDefEqProofs only [q_sSeq, q_sSet, q_xB, q_envB, List.map_cons, Option.bind_some, q_baseX_dat, q_baseX_cell, q_aCons, q_eVar0, q_eVarS, Rs.bind_ok, hl1, q_oX_ok, q_put, List.set_cons_succ, List.set_cons_zero, q_seq_nx, q_sIf, q_tOrS, q_tBs, q_e2, ofO_some, q_isN, isNonD, q_toB, if_false, q_tIn, q_ix_tup, atI_zero, q_xC, List.getElem?_cons_succ, List.getElem?_cons_zero, q_cellAt, q_cellOf, keyX, hk, q_sRaise, q_gt, hgt, hmk]
            simp -implicitDefEqProofs [xNote]
          simp -implicitDefEqProofs only [Bool.false_or, hmk, decide_true, if_true]
          rw [hb]
          exact ⟨_, rfl⟩
        · have hb : lb_stock_in_1 c (stS d most n (some (.dat (.int ((st.length + 1 : Nat) : Int)))) (some (.dat (.str l))) x7 st) = .nx (stS d most n (some (.dat (.int ((st.length + 1 : Nat) : Int)))) (some (.dat (.str l))) (some (.dat (.tup [.str p.1, .str p.2]))) (st ++ [p])) := by
            unfold lb_stock_in_1 stS
            simp -implicitDefEqProofs only [q_sSeq, q_sSet, q_xB, q_envB, List.map_cons, Option.bind_some, q_baseX_dat, q_baseX_cell, q_aCons, q_eVar0, q_eVarS, Rs.bind_ok, hl1, q_oX_ok, q_put, List.set_cons_succ, List.set_cons_zero, q_seq_nx, q_sIf, q_tOrS, q_tBs, q_e2, ofO_some, q_isN, isNonD, q_toB, if_false, q_tIn, q_ix_tup, atI_zero, q_xC, List.getElem?_cons_succ, List.getElem?_cons_zero, q_cellAt, q_cellOf, keyX, hk, q_sRaise, q_gt, hgt, hmk]
            simp -implicitDefEqProofs [sAdd, keyX, hlt, hsc2, ← tupsD_app, tupD, atI_zero]
          simp -implicitDefEqProofs only [Bool.false_or, hmk, decide_false]
          have ih := stock_loop (d := d) h0 h1 hm rest (st ++ [p]) (some (.dat (.int ((st.length + 1 : Nat) : Int)))) (some (.dat (.str l))) (some (.dat (.tup [.str p.1, .str p.2]))) (fun q hq => hS q (List.mem_cons_of_mem _ hq)) (by simp; omega)
          have e3 : ((st.length + 1 : Nat) : Int) + 1 = (((st ++ [p]).length + 1 : Nat) : Int) := by simp
          have e4 : st.length + 1 + 1 = (st ++ [p]).length + 1 := by simp
          rw [hb, e3, e4]
          exact ih
end
end LK
set_option Elab.async false
set_option linter.all false
set_option maxRecDepth 100000
set_option maxHeartbeats 1000000
namespace LK
open PySem PySem.Spec PyProof.Rows L2 DL
set_option autoImplicit false
section
variable {c : Ad}
def lineP (p : Str × Str) : Str := p.1 ++ " " ++ p.2
theorem ws_join (l : Str) : Str.join " " (ws l) = l := PySem.StrLaws.join_split ..
theorem stampIn_is {n : Int} {l : Str} {p : Str × Str} (h : stampIn n l = some p) (hl : Sm l) : goodP n p ∧ l = lineP p := by
  have hj := ws_join l
  have sm : ∀ x ∈ ws l, x.length ≤ sizeLine := fun x hx => Nat.le_trans (split_le hx) hl.le
  unfold stampIn at h
  split at h
  · rename_i a b hw
    split at h
    · rename_i hc
      cases h
      rw [hw] at hj sm
      refine ⟨⟨?_, sm a (by simp), sm b (by simp)⟩, hj.symm⟩
      unfold okSt
      exact hc
    · cases h
  · cases h
theorem fresh_app : ∀ (a b pre : Tps), allFresh pre (a ++ b) = (allFresh pre a && allFresh (pre ++ a) b)
  | [], b, pre => by simp -implicitDefEqProofs [allFresh]
  | p :: a, b, pre => by
    show (fresh1 pre p && allFresh (pre ++ [p]) (a ++ b)) = ((fresh1 pre p && allFresh (pre ++ [p]) a) && allFresh (pre ++ p :: a) b)
    rw [fresh_app a b (pre ++ [p]), Bool.and_assoc]
    simp
theorem rdS_ok {n : Int} {most : Nat} : ∀ (ls : List Str) (k : Nat) (st st' : Tps), (∀ l ∈ ls, Sm l) → rdS n most ls k st = .inr st' → k = st.length + 1 → st.length ≤ most → (∀ p ∈ st, goodP n p) → allFresh [] st = true →
    (∃ w, st' = st ++ w ∧ ls = w.map lineP) ∧ st'.length ≤ most ∧ (∀ p ∈ st', goodP n p) ∧ allFresh [] st' = true
  | [], k, st, st', _, h, _, h2, h3, h4 => by
    cases h
    exact ⟨⟨[], by simp, rfl⟩, h2, h3, h4⟩
  | l :: ls, k, st, st', hS, h, hk, h2, h3, h4 => by
    unfold rdS at h
    cases hp : stampIn n l with
    | none =>
      rw [hp] at h
      cases h
    | some p =>
      rw [hp] at h
      dsimp only at h
      split at h
      · cases h
      · rename_i hc
        rw [Bool.or_eq_true, not_or, Bool.not_eq_true, decide_eq_true_eq] at hc
        obtain ⟨g1, g2⟩ := stampIn_is hp (hS l (List.mem_cons_self ..))
        have hf : allFresh [] (st ++ [p]) = true := by
          rw [fresh_app, h4]
          simp -implicitDefEqProofs [allFresh, fresh1, hc.1]
        have hgood : ∀ q ∈ st ++ [p], goodP n q := fun q hq => by
          rcases List.mem_append.mp hq with hq | hq
          · exact h3 q hq
          · rw [List.mem_singleton.mp hq]
            exact g1
        obtain ⟨⟨w, w1, w2⟩, a2, a3, a4⟩ := rdS_ok ls (k + 1) (st ++ [p]) st' (fun q hq => hS q (List.mem_cons_of_mem _ hq)) h (by simp; omega) (by simp; omega) hgood hf
        refine ⟨⟨p :: w, ?_, ?_⟩, a2, a3, a4⟩
        · rw [w1]
          simp
        · rw [w2, g2]
          rfl
/-- what stock_in makes of lines -/
def stockR (c : Ad) (most : Nat) : List Str → Rs D
  | [] => .bad
  | l0 :: ls => match sizeIn l0 with
    | none => .exc (xNote c 0)
    | some n => match rdS n most ls 1 [] with
      | .inl j => .exc (xNote c j)
      | .inr st => .ok (stockD c n st)
theorem slice1 (l0 : D) (ls : List D) : dSl (.lst (l0 :: ls)) (some 1) none = some (.lst ls) := by
  show some (D.lst (DL.cutD (l0 :: ls) (some 1) none)) = _
  unfold DL.cutD
  have e1 : HT.sIx (l0 :: ls).length 0 (some 1) = 1 := by
    have := HT.sIx_nat (l0 :: ls).length 0 1
    rw [show ((1 : Nat) : Int) = 1 from rfl] at this
    rw [this, List.length_cons]
    omega
  rw [e1, HT.sIx_none]
  simp
theorem tupsD_pair (st : Tps) : tupsD st = st.map (pairD false) := rfl
theorem size_bounds {l : Str} {n : Int} (h : sizeIn l = some n) : 1 ≤ n ∧ n ≤ 30 := by
  obtain ⟨k, hk, e, _⟩ := size_is h
  omega
theorem stock_in_is {most : Nat} {lines : List Str} (hm : most ≤ 100) (hS : ∀ l ∈ lines, Sm l) (hlen : lines.length ≤ 100002) : m_stock_in c [.lst (lines.map .str), .int most] = stockR c most lines := by
  unfold m_stock_in fnD mm_stock_in stockR
  match lines, hS, hlen with
  | [], _, _ => 
    simp -implicitDefEqProofs [startX, atI, ixN]
  | l0 :: ls, hS, hlen =>
    have hsz := size_in_is (c := c) (hS l0 (List.mem_cons_self ..))
    cases hn : sizeIn l0 with
    | none =>
      rw [hn] at hsz
      simp -implicitDefEqProofs [startX, atI_zero, hsz, optI, isNonD, xNote, hn]
    | some n =>
      rw [hn] at hsz
      obtain ⟨h0, h1⟩ := size_bounds hn
      have hS' : ∀ l ∈ ls, Sm l := fun q hq => hS q (List.mem_cons_of_mem _ hq)
      have hloop := stock_loop (c := c) (d := .lst ((l0 :: ls).map .str)) (most := most) (n := n) h0 h1 hm ls [] none none none hS' (Nat.zero_le _)
      have hsl := slice1 (.str l0) (ls.map .str)
      have hit : iEnumL 1 (eSl (eVar 0 (envB (stS (.lst (.str l0 :: ls.map .str)) most n none none none []))) (oPart (Rs.ok (.int 1))) (Rs.ok none)) = .ok (numD 1 (ls.map .str)) := by
        unfold stS
        simp -implicitDefEqProofs [iEnumL, enumOf, hsl]
      have hst0 : (⟨[some (.dat (.lst (.str l0 :: ls.map .str))), some (.dat (.int most)), some (.dat (.int n)), some (.cell 0), some (.cell 1), none, none, none], [some (.lst []), some (.kset [])]⟩ : S) = stS (.lst (.str l0 :: ls.map .str)) most n none none none [] := rfl
      cases hr : rdS n most ls 1 [] with
      | inl j =>
        have hr' : rdS n most ls (([] : Tps).length + 1) [] = .inl j := hr
        rw [hr'] at hloop
        obtain ⟨s, hloop⟩ := hloop
        have hlp : lp_stock_in_1 c (stS (.lst (.str l0 :: ls.map .str)) most n none none none []) = .exc (xNote c j) s := by
          unfold lp_stock_in_1
          rw [q_sFor, hit]
          exact hloop
        simp -implicitDefEqProofs [startX, atI_zero, hsz, optI, isNonD, hn, sizeLine_eq, hst0, hlp, hr]
      | inr st =>
        have hr' : rdS n most ls (([] : Tps).length + 1) [] = .inr st := hr
        rw [hr'] at hloop
        obtain ⟨y5, y6, y7, hloop⟩ := hloop
        have hlp : lp_stock_in_1 c (stS (.lst (.str l0 :: ls.map .str)) most n none none none []) = .nx (stS (.lst (.str l0 :: ls.map .str)) most n y5 y6 y7 st) := by
          unfold lp_stock_in_1
          rw [q_sFor, hit]
          exact hloop
        have hfz : sFrz 3 (stS (.lst (.str l0 :: ls.map .str)) most n y5 y6 y7 st) = .nx ⟨[some (.dat (.lst (.str l0 :: ls.map .str))), some (.dat (.int most)), some (.dat (.int n)), some (.dat (.lst (tupsD st))), some (.cell 1), y5.map (subX 0 (.lst (tupsD st))), y6.map (subX 0 (.lst (tupsD st))), y7.map (subX 0 (.lst (tupsD st)))], [none, some (.kset (st.map fun p => .inr p.1))]⟩ := by
          unfold stS
          rw [sFrz_lst (k := 0) (ds := tupsD st) rfl rfl]
          simp -implicitDefEqProofs [cutK]
        obtain ⟨_, a2, a3, a4⟩ := rdS_ok ls 1 [] st hS' hr rfl (Nat.zero_le _) (fun _ h => by cases h) rfl
        have hfr := frozen_pairs (c := c) false st (by omega)
        rw [← tupsD_pair] at hfr
        have hinit := init_ok (c := c) (n := n) (d := .lst (tupsD st)) hfr h0 h1 (by omega) a3 a4
        simp -implicitDefEqProofs [startX, atI_zero, hsz, optI, isNonD, hn, sizeLine_eq, hst0, hlp, hr, hfz, hinit, stockD]
theorem parse_stock_is {note : Str} (h : Sm note) : m_parse_stock c [.str note] = stockR c 24 (nl note) := by
  have hlen : (nl note).length ≤ 100002 := by
    have := split_len note "\n" (by decide)
    unfold nl
    unfold Sm at h
    omega
  have hs := stock_in_is (c := c) (most := 24) (lines := nl note) (by omega) (fun l hl => nl_sm h hl) hlen
  have hsp := nl_ok h
  unfold m_parse_stock fnD mm_parse_stock
  rw [show ((24 : Nat) : Int) = 24 from rfl] at hs
  cases hr : stockR c 24 (nl note) <;> rw [hr] at hs <;> simp -implicitDefEqProofs [startX, hsp, hs]
end
end LK
set_option Elab.async false
set_option linter.all false
set_option maxRecDepth 100000
set_option maxHeartbeats 1000000
namespace LK
open PySem PySem.Spec PyProof.Rows L2 DL
set_option autoImplicit false
section
variable {c : Ad}
/-! ### boxes read -/
def fpl : List Str → Nat → Nat
  | [], k => k
  | l :: ls, k => if isPair l = true then k else fpl ls (k + 1)
def npre (ls : List Str) : List Str := ls.takeWhile fun l => !isPair l
def nrest (ls : List Str) : List Str := ls.dropWhile fun l => !isPair l
theorem fpl_len : ∀ (ls : List Str) (k : Nat), fpl ls k = k + (npre ls).length
  | [], k => rfl
  | l :: ls, k => by
    unfold fpl npre
    by_cases h : isPair l = true
    · rw [if_pos h]
      simp [h]
    · rw [if_neg h, fpl_len ls (k + 1)]
      have h' : isPair l = false := by simpa using h
      simp [h', npre]
      omega
theorem pre_rest (ls : List Str) : npre ls ++ nrest ls = ls := List.takeWhile_append_dropWhile
theorem first_loop {lines : List Str} : ∀ (rest pre : List Str) (x : Option Xv), lines = pre ++ rest → (∀ l ∈ rest, Sm l) →
    (∃ k, fpl rest pre.length = k ∧ k < lines.length ∧ forL (gN 1) (lb_first_pair_line_1 c) (DL.upTo (pre.length : Nat) rest.length) ⟨[some (.dat (.lst (lines.map .str))), x], []⟩ = .ret (.int (k : Nat))) ∨
    (fpl rest pre.length = lines.length ∧ ∃ y, forL (gN 1) (lb_first_pair_line_1 c) (DL.upTo (pre.length : Nat) rest.length) ⟨[some (.dat (.lst (lines.map .str))), x], []⟩ = .nx ⟨[some (.dat (.lst (lines.map .str))), y], []⟩)
  | [], pre, x, e, _ => by
    rw [List.append_nil] at e
    exact .inr ⟨by rw [e]; rfl, x, rfl⟩
  | l :: ls, pre, x, e, hS => by
    have hk : lines[pre.length]? = some l := by rw [e]; simp
    have hk2 : atI (lines.map D.str) (pre.length : Int) = some (.str l) := atI_nat (by rw [List.getElem?_map, hk]; rfl)
    have hp := is_pair_line_is (c := c) (hS l (List.mem_cons_self ..))
    have hb : lb_first_pair_line_1 c ⟨[some (.dat (.lst (lines.map .str))), some (.dat (.int (pre.length : Nat)))], []⟩ = if isPair l = true then .ret (.int (pre.length : Nat)) else .nx ⟨[some (.dat (.lst (lines.map .str))), some (.dat (.int (pre.length : Nat)))], []⟩ := by
      unfold lb_first_pair_line_1
      simp -implicitDefEqProofs [hk2, hp]
    have hg : gN 1 (.int (pre.length : Nat)) ⟨[some (.dat (.lst (lines.map .str))), x], []⟩ = some ⟨[some (.dat (.lst (lines.map .str))), some (.dat (.int (pre.length : Nat)))], []⟩ := rfl
    rw [List.length_cons, upTo_cons]
    unfold forL fpl
    rw [hg]
    dsimp only
    rw [hb]
    by_cases hq : isPair l = true
    · rw [if_pos hq, if_pos hq]
      refine .inl ⟨_, rfl, ?_, rfl⟩
      rw [e]
      simp
    · rw [if_neg hq, if_neg hq]
      have ih := first_loop (lines := lines) ls (pre ++ [l]) (some (.dat (.int (pre.length : Nat)))) (by rw [e]; simp) (fun q hq => hS q (List.mem_cons_of_mem _ hq))
      have e2 : ((pre ++ [l]).length : Nat) = pre.length + 1 := by simp
      rw [e2] at ih
      have e3 : ((pre.length : Nat) : Int) + 1 = ((pre.length + 1 : Nat) : Int) := by omega
      rw [e3]
      exact ih
theorem first_pair_line_is {l0 : Str} {ls : List Str} (hS : ∀ l ∈ ls, Sm l) (hlen : ls.length ≤ 100002) : m_first_pair_line c [.lst (.str l0 :: ls.map .str)] = .ok (.int ((fpl ls 1 : Nat) : Int)) := by
  unfold m_first_pair_line fnD mm_first_pair_line lp_first_pair_line_1
  have hit : (iRg rng2 (aCons (Rs.ok (.int 1)) (aCons (eCb cLen (aCons (eVar 0 (envB ⟨[some (.dat (.lst (.str l0 :: ls.map .str))), none], []⟩)) (Rs.ok []))) (Rs.ok [])))) = .ok (DL.upTo 1 ls.length) := by
    have hup : (((ls.length + 1 : Nat) : Int) - 1).toNat = ls.length := by omega
    have hrg : (rgOk 1 && rgOk ((ls.length + 1 : Nat) : Int)) = true := Bool.and_eq_true_iff.mpr ⟨LK.rg_one, DL.rg_small (by omega)⟩
    simp -implicitDefEqProofs only [q_envB, List.map_cons, Option.bind_some, q_baseX_dat, q_eVarS, q_eVar0, q_eCb, q_aCons, Rs.bind_ok, q_cLen, q_len_lst, Option.map_some, ofO_some, q_iRg, List.length_cons, List.length_map]
    rw [q_rng2, if_pos hrg, hup, ofO_some]
  rcases first_loop (c := c) (lines := l0 :: ls) ls [l0] none rfl hS with ⟨k, h1, h2, h3⟩ | ⟨h1, y, h3⟩
  · have hl : sFor (fun δ => (iRg rng2 (aCons (Rs.ok (.int 1)) (aCons (eCb cLen (aCons (eVar 0 δ) (Rs.ok []))) (Rs.ok []))))) (gN 1) (lb_first_pair_line_1 c) (startX 2 [.lst (.str l0 :: ls.map .str)]) = .ret (.int (k : Nat)) := by
      have s0 : startX 2 [.lst (.str l0 :: ls.map .str)] = ⟨[some (.dat (.lst (.str l0 :: ls.map .str))), none], []⟩ := rfl
      rw [s0, q_sFor, hit]
      exact h3
    have h1' : fpl ls 1 = k := h1
    rw [if_pos (by rfl), seq_ret hl, h1']
    rfl
  · have hl : sFor (fun δ => (iRg rng2 (aCons (Rs.ok (.int 1)) (aCons (eCb cLen (aCons (eVar 0 δ) (Rs.ok []))) (Rs.ok []))))) (gN 1) (lb_first_pair_line_1 c) (startX 2 [.lst (.str l0 :: ls.map .str)]) = .nx ⟨[some (.dat (.lst (.str l0 :: ls.map .str))), y], []⟩ := by
      have s0 : startX 2 [.lst (.str l0 :: ls.map .str)] = ⟨[some (.dat (.lst (.str l0 :: ls.map .str))), none], []⟩ := rfl
      rw [s0, q_sFor, hit]
      exact h3
    have h1' : fpl ls 1 = ls.length + 1 := h1
    rw [if_pos (by rfl), seq_nx hl, h1']
    simp -implicitDefEqProofs
def rdP (n : Int) (count : Nat) : List Str → Nat → Tps → Nat ⊕ Tps
  | [], _, ps => .inr ps
  | l :: ls, k, ps => match pairIn n l with
    | some p => if ps.length = count then .inl k else rdP n count ls (k + 1) (ps ++ [p])
    | none => .inl k
def stB (c : Ad) (d0 : D) (lines : List Str) (d2 : D) (n : Int) (st : Tps) (x5 x6 : Option Xv) (ps : Tps) : S :=
  ⟨[some (.dat d0), some (.dat (.lst (lines.map .str))), some (.dat d2), some (.dat (stockD c n st)), some (.cell 0), x5, x6], [some (.lst ((tupsD ps).map .dat))]⟩
theorem box_loop {d0 d2 : D} {lines : List Str} {n : Int} {st : Tps} (h0 : 1 ≤ n) (h1 : n ≤ 30) : ∀ (rest pre : List Str) (ps : Tps) (x5 x6 : Option Xv), lines = pre ++ rest → (∀ l ∈ rest, Sm l) → ps.length ≤ 4 →
    match rdP n 4 rest pre.length ps with
    | .inr ps' => ∃ y5 y6, forL (gN 5) (lb_parse_box_1 c) (DL.upTo (pre.length : Nat) rest.length) (stB c d0 lines d2 n st x5 x6 ps) = .nx (stB c d0 lines d2 n st y5 y6 ps')
    | .inl j => ∃ s, forL (gN 5) (lb_parse_box_1 c) (DL.upTo (pre.length : Nat) rest.length) (stB c d0 lines d2 n st x5 x6 ps) = .exc (xNote c j) s
  | [], pre, ps, x5, x6, _, _, _ => ⟨x5, x6, rfl⟩
  | l :: rest, pre, ps, x5, x6, e, hS, hl => by
    have hk : lines[pre.length]? = some l := by rw [e]; simp
    have hk2 : atI (lines.map D.str) (pre.length : Int) = some (.str l) := atI_nat (by rw [List.getElem?_map, hk]; rfl)
    have hp := pair_in_is (c := c) (n := n) (hS l (List.mem_cons_self ..)) h0 h1
    have hg : gN 5 (.int (pre.length : Nat)) (stB c d0 lines d2 n st x5 x6 ps) = some (stB c d0 lines d2 n st (some (.dat (.int (pre.length : Nat)))) x6 ps) := rfl
    have hlt : ps.length < sizeLine := by
      rw [sizeLine_eq]
      omega
    have hsz : List.lookup ("size" : Str) (stockF n st) = some (.int n) := rfl
    rw [List.length_cons, upTo_cons]
    unfold forL rdP
    rw [hg]
    dsimp only
    cases hpi : pairIn n l with
    | none =>
      rw [hpi] at hp
      have hb : lb_parse_box_1 c (stB c d0 lines d2 n st (some (.dat (.int (pre.length : Nat)))) x6 ps) = .exc (xNote c pre.length) (stB c d0 lines d2 n st (some (.dat (.int (pre.length : Nat)))) (some (.dat .non)) ps) := by
        unfold lb_parse_box_1 stB stockD
        simp -implicitDefEqProofs [hk2, hsz, hp, optP, xNote]
      dsimp only
      rw [hb]
      exact ⟨_, rfl⟩
    | some p =>
      rw [hpi] at hp
      have ho : optP (some p) = .tup [.str p.1, .str p.2] := rfl
      rw [ho] at hp
      dsimp only
      by_cases hc : ps.length = 4
      · have ec : ((ps.length : Int) == 4) = true := by simp [hc]
        have hb : lb_parse_box_1 c (stB c d0 lines d2 n st (some (.dat (.int (pre.length : Nat)))) x6 ps) = .exc (xNote c pre.length) (stB c d0 lines d2 n st (some (.dat (.int (pre.length : Nat)))) (some (.dat (.tup [.str p.1, .str p.2]))) ps) := by
          unfold lb_parse_box_1 stB stockD
          simp -implicitDefEqProofs [hk2, hsz, hp, xNote, tupsD_len, ec]
        rw [if_pos hc]
        dsimp only
        rw [hb]
        exact ⟨_, rfl⟩
      · have ec : ((ps.length : Int) == 4) = false := by
          simp
          omega
        have hb : lb_parse_box_1 c (stB c d0 lines d2 n st (some (.dat (.int (pre.length : Nat)))) x6 ps) = .nx (stB c d0 lines d2 n st (some (.dat (.int (pre.length : Nat)))) (some (.dat (.tup [.str p.1, .str p.2]))) (ps ++ [p])) := by
          unfold lb_parse_box_1 stB stockD
          simp -implicitDefEqProofs [hk2, hsz, hp, xNote, tupsD_len, ec, hlt, ← tupsD_app, tupD]
        rw [if_neg hc]
        try dsimp only
        rw [hb]
        have ih := box_loop (d0 := d0) (d2 := d2) (lines := lines) (st := st) h0 h1 rest (pre ++ [l]) (ps ++ [p]) (some (.dat (.int (pre.length : Nat)))) (some (.dat (.tup [.str p.1, .str p.2]))) (by rw [e]; simp) (fun q hq => hS q (List.mem_cons_of_mem _ hq)) (by simp; omega)
        have e2 : ((pre ++ [l]).length : Nat) = pre.length + 1 := by simp
        rw [e2] at ih
        have e3 : ((pre.length : Nat) : Int) + 1 = ((pre.length + 1 : Nat) : Int) := by omega
        rw [e3]
        exact ih
end
end LK
set_option Elab.async false
set_option linter.all false
set_option maxRecDepth 100000
set_option maxHeartbeats 1000000
namespace LK
open PySem PySem.Spec PyProof.Rows L2 DL
set_option autoImplicit false
section
variable {c : Ad}
def boxF (c : Ad) (n : Int) (st ps : Tps) : List (Str × D) := [("stock", stockD c n st), ("pairs", .tup (tupsD ps))]
def boxD (c : Ad) (n : Int) (st ps : Tps) : D := .ins c.Box (boxF c n st ps)
theorem ne_stock_pairs : (("stock" : Str) = "pairs") = False := eq_false (by decide)
theorem box_init {n : Int} {st ps : Tps} {d : D} (hd : m_frozen c 4 [d] = .ok (.tup (tupsD ps))) : m_Box___init__ c [stockD c n st, d] = .ok (boxF c n st ps) := by
  unfold m_Box___init__ fnI mm_Box___init__
  have hs : startI c.Box 3 [stockD c n st, d] = ⟨[some (.cell 0), some (.dat (stockD c n st)), some (.dat d)], [some (.ins c.Box [])]⟩ := rfl
  simp -implicitDefEqProofs [hs, hd, sFldP, putFX, endI, datF, boxF, ne_stock_pairs]
def boxR (c : Ad) : List Str → Rs D
  | [] => .bad
  | l0 :: ls => match stockR c 7 (l0 :: npre ls) with
    | .ok _ => match sizeIn l0 with
      | none => .bad
      | some n => match rdS n 7 (npre ls) 1 [] with
        | .inl _ => .bad
        | .inr st => match rdP n 4 (nrest ls) (1 + (npre ls).length) [] with
          | .inl j => .exc (xNote c j)
          | .inr ps => .ok (boxD c n st ps)
    | .exc e => .exc e
    | .bad => .bad
theorem slice_pre (l0 : Str) (ls : List Str) : dSl (.lst (.str l0 :: ls.map .str)) none (some ((fpl ls 1 : Nat) : Int)) = some (.lst ((l0 :: npre ls).map .str)) := by
  show some (D.lst (DL.cutD (.str l0 :: ls.map .str) none (some ((fpl ls 1 : Nat) : Int)))) = _
  unfold DL.cutD
  have hl := fpl_len ls 1
  have hle : (npre ls).length ≤ ls.length := by
    have := congrArg List.length (pre_rest ls)
    rw [List.length_append] at this
    omega
  have e1 : HT.sIx (D.str l0 :: ls.map D.str).length (D.str l0 :: ls.map D.str).length (some ((fpl ls 1 : Nat) : Int)) = 1 + (npre ls).length := by
    have := HT.sIx_nat (D.str l0 :: ls.map D.str).length (D.str l0 :: ls.map D.str).length (fpl ls 1)
    rw [this, hl, List.length_cons, List.length_map]
    omega
  rw [e1, HT.sIx_none, List.drop_zero, Nat.sub_zero]
  have e2 : (1 + (npre ls).length) = (npre ls).length + 1 := by omega
  rw [e2, List.take_succ_cons, List.map_cons]
  congr 3
  rw [← List.map_take]
  congr 1
  have := congrArg (List.take (npre ls).length) (pre_rest ls)
  rw [List.take_left] at this
  exact this.symm
theorem rdP_len {n : Int} {count : Nat} : ∀ (ls : List Str) (k : Nat) (ps ps' : Tps), rdP n count ls k ps = .inr ps' → ps.length ≤ count → ps'.length ≤ count
  | [], _, ps, ps', h, hl => by
    cases h
    exact hl
  | l :: ls, k, ps, ps', h, hl => by
    unfold rdP at h
    split at h
    · split at h
      · cases h
      · rename_i hc
        exact rdP_len ls (k + 1) _ ps' h (by simp; omega)
    · cases h
theorem parse_box_is {note : Str} (h : Sm note) : m_parse_box c [.str note] = boxR c (nl note) := by
  have hlen : (nl note).length ≤ 100002 := by
    have := split_len note "\n" (by decide)
    unfold nl
    unfold Sm at h
    omega
  have hsp := nl_ok h
  match hw : nl note with
  | [] => exact absurd hw (split_ne _ _)
  | l0 :: ls =>
    rw [hw] at hsp hlen
    have hS : ∀ l ∈ l0 :: ls, Sm l := fun l hl => nl_sm h (by rw [hw]; exact hl)
    have hpre : ∀ l ∈ l0 :: npre ls, Sm l := fun l hl => hS l (by
      rcases List.mem_cons.mp hl with rfl | hl
      · simp
      · refine List.mem_cons_of_mem _ ?_
        rw [← pre_rest ls]
        exact List.mem_append_left _ hl)
    have hle : (npre ls).length + (nrest ls).length = ls.length := by
      have := congrArg List.length (pre_rest ls)
      rwa [List.length_append] at this
    rw [List.length_cons] at hlen
    have hf := first_pair_line_is (c := c) (l0 := l0) (ls := ls) (fun l hl => hS l (List.mem_cons_of_mem _ hl)) (by omega)
    have hst := stock_in_is (c := c) (most := 7) (lines := l0 :: npre ls) (by omega) hpre (by rw [List.length_cons]; omega)
    have hsl := slice_pre l0 ls
    have s0 : startX 7 [.str note] = ⟨[some (.dat (.str note)), none, none, none, none, none, none], []⟩ := rfl
    have e1 : sSet 1 (xB fun δ => (((nMb "str" mSplit (eVar 0 δ) (aCons (Rs.ok (.str "\n")) (Rs.ok [])))).bind noD)) (startX 7 [.str note]) = .nx ⟨[some (.dat (.str note)), some (.dat (.lst (.str l0 :: ls.map .str))), none, none, none, none, none], []⟩ := by
      rw [s0]
      simp -implicitDefEqProofs [hsp]
    have e2 : sSet 2 (xB fun δ => ((aCons (eVar 1 δ) (Rs.ok [])).bind (m_first_pair_line c))) ⟨[some (.dat (.str note)), some (.dat (.lst (.str l0 :: ls.map .str))), none, none, none, none, none], []⟩ = .nx ⟨[some (.dat (.str note)), some (.dat (.lst (.str l0 :: ls.map .str))), some (.dat (.int ((fpl ls 1 : Nat) : Int))), none, none, none, none], []⟩ := by
      simp -implicitDefEqProofs [hf]
    have e3 : (xB fun δ => ((aCons (eSl (eVar 1 δ) (Rs.ok none) (oPart (eVar 2 δ))) (aCons (Rs.ok (.int 7)) (Rs.ok []))).bind (m_stock_in c))) ⟨[some (.dat (.str note)), some (.dat (.lst (.str l0 :: ls.map .str))), some (.dat (.int ((fpl ls 1 : Nat) : Int))), none, none, none, none], []⟩ = (stockR c 7 (l0 :: npre ls)).bind fun d => .ok (.dat d) := by
      have hst' : m_stock_in c [.lst (.str l0 :: (npre ls).map .str), .int 7] = stockR c 7 (l0 :: npre ls) := hst
      simp -implicitDefEqProofs only [q_xB, q_envB, List.map_cons, Option.bind_some, q_baseX_dat, q_eVarS, q_eVar0, q_eSl, Rs.bind_ok, q_oPart, hsl, ofO_some, q_aCons, hst']
    unfold m_parse_box fnD mm_parse_box
    rw [if_pos (by rfl), seq_nx e1, seq_nx e2, q_sSeq, q_sSet, e3]
    unfold boxR
    dsimp only
    cases hr : stockR c 7 (l0 :: npre ls) with
    | exc e => rfl
    | bad => rfl
    | ok d =>
      have hr' := hr
      unfold stockR at hr'
      dsimp only at hr'
      try dsimp only
      cases hsz : sizeIn l0 with
      | none =>
        rw [hsz] at hr'
        cases hr'
      | some n =>
        rw [hsz] at hr'
        dsimp only at hr'
        try dsimp only
        obtain ⟨h0, h1⟩ := size_bounds hsz
        cases hrs : rdS n 7 (npre ls) 1 [] with
        | inl j =>
          rw [hrs] at hr'
          cases hr'
        | inr st =>
          rw [hrs] at hr'
          cases hr'
          try dsimp only
          have hlin : l0 :: ls = (l0 :: npre ls) ++ nrest ls := by rw [List.cons_append, pre_rest]
          have hloop := box_loop (c := c) (d0 := .str note) (d2 := .int ((fpl ls 1 : Nat) : Int)) (lines := l0 :: ls) (n := n) (st := st) h0 h1 (nrest ls) (l0 :: npre ls) [] none none hlin (fun l hl => hS l (by rw [hlin]; exact List.mem_append_right _ hl)) (Nat.zero_le _)
          have ek : (l0 :: npre ls).length = 1 + (npre ls).length := by rw [List.length_cons]; omega
          rw [ek] at hloop
          have e4 : sNew 4 (nB fun δ => (nLst (Rs.ok []))) ⟨[some (.dat (.str note)), some (.dat (.lst (.str l0 :: ls.map .str))), some (.dat (.int ((fpl ls 1 : Nat) : Int))), some (.dat (stockD c n st)), none, none, none], []⟩ = .nx (stB c (.str note) (l0 :: ls) (.int ((fpl ls 1 : Nat) : Int)) n st none none []) := by
            unfold stB
            simp -implicitDefEqProofs [sizeLine_eq, tupsD]
          have hit : (iRg rng2 (aCons (eVar 2 (envB (stB c (.str note) (l0 :: ls) (.int ((fpl ls 1 : Nat) : Int)) n st none none []))) (aCons (eCb cLen (aCons (eVar 1 (envB (stB c (.str note) (l0 :: ls) (.int ((fpl ls 1 : Nat) : Int)) n st none none []))) (Rs.ok []))) (Rs.ok [])))) = .ok (DL.upTo ((1 + (npre ls).length : Nat) : Int) (nrest ls).length) := by
            unfold stB
            have hfl := fpl_len ls 1
            have hrg : (rgOk ((1 + (npre ls).length : Nat) : Int) && rgOk (((l0 :: ls).length : Nat) : Int)) = true := Bool.and_eq_true_iff.mpr ⟨DL.rg_small (by omega), DL.rg_small (by rw [List.length_cons]; omega)⟩
            have hup : ((((l0 :: ls).length : Nat) : Int) - ((1 + (npre ls).length : Nat) : Int)).toNat = (nrest ls).length := by
              rw [List.length_cons]
              omega
            simp -implicitDefEqProofs only [q_envB, List.map_cons, Option.bind_some, q_baseX_dat, q_eVarS, q_eVar0, q_eCb, q_aCons, Rs.bind_ok, q_cLen, q_len_lst, Option.map_some, ofO_some, q_iRg]
            rw [← List.map_cons, List.length_map, hfl, q_rng2, if_pos hrg, hup, ofO_some]
          have eput : S.put ⟨[some (.dat (.str note)), some (.dat (.lst (.str l0 :: ls.map .str))), some (.dat (.int ((fpl ls 1 : Nat) : Int))), none, none, none, none], []⟩ 3 (.dat (stockD c n st)) = ⟨[some (.dat (.str note)), some (.dat (.lst (.str l0 :: ls.map .str))), some (.dat (.int ((fpl ls 1 : Nat) : Int))), some (.dat (stockD c n st)), none, none, none], []⟩ := rfl
          rw [Rs.bind_ok, q_oX_ok, q_seq_nx, eput, seq_nx e4]
          cases hrp : rdP n 4 (nrest ls) (1 + (npre ls).length) [] with
          | inl j =>
            rw [hrp] at hloop
            obtain ⟨s, hloop⟩ := hloop
            have hlp : lp_parse_box_1 c (stB c (.str note) (l0 :: ls) (.int ((fpl ls 1 : Nat) : Int)) n st none none []) = .exc (xNote c j) s := by
              unfold lp_parse_box_1
              rw [q_sFor, hit]
              exact hloop
            rw [seq_exc hlp]
            rfl
          | inr ps =>
            rw [hrp] at hloop
            obtain ⟨y5, y6, hloop⟩ := hloop
            have hlp : lp_parse_box_1 c (stB c (.str note) (l0 :: ls) (.int ((fpl ls 1 : Nat) : Int)) n st none none []) = .nx (stB c (.str note) (l0 :: ls) (.int ((fpl ls 1 : Nat) : Int)) n st y5 y6 ps) := by
              unfold lp_parse_box_1
              rw [q_sFor, hit]
              exact hloop
            have hfz : sFrz 4 (stB c (.str note) (l0 :: ls) (.int ((fpl ls 1 : Nat) : Int)) n st y5 y6 ps) = .nx ⟨[some (.dat (.str note)), some (.dat (.lst ((l0 :: ls).map .str))), some (.dat (.int ((fpl ls 1 : Nat) : Int))), some (.dat (stockD c n st)), some (.dat (.lst (tupsD ps))), y5.map (subX 0 (.lst (tupsD ps))), y6.map (subX 0 (.lst (tupsD ps)))], [none]⟩ := by
              unfold stB
              rw [sFrz_lst (k := 0) (ds := tupsD ps) rfl rfl]
              simp -implicitDefEqProofs [cutK]
            have hpl := rdP_len _ _ _ _ hrp (Nat.zero_le _)
            have hfr := frozen_pairs (c := c) false ps (by omega)
            rw [← tupsD_pair] at hfr
            have hbi := box_init (c := c) (n := n) (st := st) hfr
            rw [seq_nx hlp, seq_nx hfz]
            simp -implicitDefEqProofs [hbi, boxD]
end
end LK
set_option Elab.async false
set_option linter.all false
set_option maxRecDepth 100000
set_option maxHeartbeats 1000000
namespace LK
open PySem PySem.Spec PyProof.Rows L2 DL
set_option autoImplicit false
section
variable {c : Ad}
/-! ### both readers agree -/
theorem step_stamp {n : Int} {most count : Nat} {l : Str} {st : Tps} (h : isPair l = false ∨ count = 0) : step n most count l st [] = match stampIn n l with
    | some p => if ((st.any fun q => q.1 == p.1) || decide (st.length = most)) = true then none else some (st ++ [p], [])
    | none => none := by
  unfold step stampIn
  unfold isPair at h
  match hw : ws l with
  | [] => rfl
  | [a] => rfl
  | [a, b] =>
    cases h1 : isName a <;> cases h2 : layerOf n b <;> cases h3 : (b == dashes n) <;> cases h4 : (st.any fun q => q.1 == a) <;> by_cases h5 : st.length = most <;> simp [h1, h2, h3, h4, h5, -List.any_eq_true, -List.any_eq_false]
  | [a, b, d] =>
    rw [hw] at h
    rcases h with h | h
    · simp [h]
    · subst h
      simp
  | a :: b :: d :: e :: r => rfl
theorem step_pair {n : Int} {most count : Nat} {l : Str} {st ps : Tps} (h : isPair l = true ∨ ps ≠ []) : step n most count l st ps = match pairIn n l with
    | some p => if ps.length = count then none else some (st, ps ++ [p])
    | none => none := by
  unfold step pairIn
  unfold isPair at h
  match hw : ws l with
  | [] => rfl
  | [a] => rfl
  | [a, b] =>
    rw [hw] at h
    rcases h with h | h
    · cases h
    · have : ¬ ps.length = 0 := fun z => h (List.length_eq_zero_iff.mp z)
      simp [this]
  | [a, b, d] =>
    cases h1 : (a == "pair") <;> cases h2 : layerOf n b <;> cases h3 : layerOf n d <;> by_cases h5 : ps.length = count <;> simp [h1, h2, h3, h5]
  | a :: b :: d :: e :: r => rfl
theorem rd_rdS {n : Int} {most count : Nat} {b : List Str} : ∀ (a : List Str) (k : Nat) (st : Tps), (∀ l ∈ a, isPair l = false ∨ count = 0) → k = st.length + 1 → st.length ≤ most →
    match rdS n most a k st with
    | .inl j => ∃ st', rd n most count (a ++ b) k st [] = .inl (j, st', [])
    | .inr st' => rd n most count (a ++ b) k st [] = rd n most count b (k + a.length) st' []
  | [], k, st, _, _, _ => rfl
  | l :: a, k, st, h, hk, hl => by
    have e := step_stamp (n := n) (most := most) (st := st) (h l (List.mem_cons_self ..))
    simp only [List.cons_append, rdS, rd, e]
    cases hp : stampIn n l with
    | none => exact ⟨st, rfl⟩
    | some p =>
      dsimp only
      have hd : decide (most < k) = decide (st.length = most) := by
        by_cases z : st.length = most
        · simp [z]; omega
        · simp [z]; omega
      rw [hd]
      cases hc : ((st.any fun q => q.1 == p.1) || decide (st.length = most)) with
      | true =>
        simp only [if_true]
        exact ⟨st, rfl⟩
      | false =>
        rw [Bool.or_eq_false_iff, decide_eq_false_iff_not] at hc
        have h2 := hc.2
        have ih := rd_rdS (n := n) (most := most) (count := count) (b := b) a (k + 1) (st ++ [p]) (fun l hl => h l (List.mem_cons_of_mem _ hl)) (by simp; omega) (by simp; omega)
        have e2 : k + (l :: a).length = k + 1 + a.length := by rw [List.length_cons]; omega
        rw [e2]
        simp only [Bool.false_eq_true, if_false]
        exact ih
theorem rd_rdP {n : Int} {most count : Nat} {st : Tps} : ∀ (b : List Str) (k : Nat) (ps : Tps), ((∀ l, b.head? = some l → isPair l = true) ∨ ps ≠ []) →
    match rdP n count b k ps with
    | .inl j => ∃ ps', rd n most count b k st ps = .inl (j, st, ps')
    | .inr ps' => rd n most count b k st ps = .inr (st, ps')
  | [], k, ps, _ => rfl
  | l :: b, k, ps, h => by
    have e := step_pair (n := n) (most := most) (count := count) (st := st) (l := l) (ps := ps) (h.imp_left fun z => z l rfl)
    unfold rdP rd
    rw [e]
    cases hp : pairIn n l with
    | none => exact ⟨ps, rfl⟩
    | some p =>
      dsimp only
      by_cases hc : ps.length = count
      · rw [if_pos hc, if_pos hc]
        exact ⟨ps, rfl⟩
      · rw [if_neg hc, if_neg hc]
        exact rd_rdP b (k + 1) (ps ++ [p]) (.inr (by simp))
def linePr (p : Str × Str) : Str := "pair" ++ " " ++ p.1 ++ " " ++ p.2
theorem pairIn_is {n : Int} {l : Str} {p : Str × Str} (h : pairIn n l = some p) (hl : Sm l) : (p.1.length ≤ sizeLine ∧ p.2.length ≤ sizeLine) ∧ l = linePr p := by
  have hj := ws_join l
  have sm : ∀ x ∈ ws l, x.length ≤ sizeLine := fun x hx => Nat.le_trans (split_le hx) hl.le
  unfold pairIn at h
  split at h
  · rename_i a b d hw
    split at h
    · rename_i hc
      cases h
      rw [hw] at hj sm
      refine ⟨⟨sm b (by simp), sm d (by simp)⟩, ?_⟩
      simp only [Bool.and_eq_true, beq_iff_eq] at hc
      rw [← hj, hc.1.1]
      show ("pair" : Str) ++ " " ++ (b ++ " " ++ d) = "pair" ++ " " ++ b ++ " " ++ d
      simp only [app_assoc]
    · cases h
  · cases h
theorem rdP_ok {n : Int} {count : Nat} : ∀ (ls : List Str) (k : Nat) (ps ps' : Tps), (∀ l ∈ ls, Sm l) → rdP n count ls k ps = .inr ps' → (∀ p ∈ ps, p.1.length ≤ sizeLine ∧ p.2.length ≤ sizeLine) →
    (∃ w, ps' = ps ++ w ∧ ls = w.map linePr) ∧ ∀ p ∈ ps', p.1.length ≤ sizeLine ∧ p.2.length ≤ sizeLine
  | [], k, ps, ps', _, h, hg => by
    cases h
    exact ⟨⟨[], by simp, rfl⟩, hg⟩
  | l :: ls, k, ps, ps', hS, h, hg => by
    unfold rdP at h
    cases hp : pairIn n l with
    | none =>
      rw [hp] at h
      cases h
    | some p =>
      rw [hp] at h
      dsimp only at h
      split at h
      · cases h
      · obtain ⟨g1, g2⟩ := pairIn_is hp (hS l (List.mem_cons_self ..))
        have hgood : ∀ q ∈ ps ++ [p], q.1.length ≤ sizeLine ∧ q.2.length ≤ sizeLine := fun q hq => by
          rcases List.mem_append.mp hq with hq | hq
          · exact hg q hq
          · rw [List.mem_singleton.mp hq]
            exact g1
        obtain ⟨⟨w, w1, w2⟩, a3⟩ := rdP_ok ls (k + 1) (ps ++ [p]) ps' (fun q hq => hS q (List.mem_cons_of_mem _ hq)) h hgood
        refine ⟨⟨p :: w, ?_, ?_⟩, a3⟩
        · rw [w1]
          simp
        · rw [w2, g2]
          rfl
theorem rest_head (ls : List Str) (l : Str) (h : (nrest ls).head? = some l) : isPair l = true := by
  unfold nrest at h
  have := List.head?_dropWhile_not (fun l => !isPair l) ls
  rw [h] at this
  simpa using this
theorem pre_all (ls : List Str) : ∀ l ∈ npre ls, isPair l = false := by
  intro l hl
  have := List.all_takeWhile (p := fun l => !isPair l) (l := ls)
  have h := List.all_eq_true.mp this l hl
  simpa using h
end
end LK
set_option Elab.async false
set_option linter.all false
set_option maxRecDepth 100000
set_option maxHeartbeats 1000000
namespace LK
open PySem PySem.Spec PyProof.Rows L2 DL
set_option autoImplicit false
section
variable {c : Ad}
/-! ### what is due, what is told -/
def fstN (n : Int) : Str := "stock " ++ toString n
theorem note_lines (note : Str) : Str.join "\n" (nl note) = note := PySem.StrLaws.join_split ..
structure OkStock (n : Int) (st : Tps) (most : Nat) : Prop where
  n0 : 1 ≤ n
  n1 : n ≤ 30
  len : st.length ≤ most
  good : ∀ p ∈ st, goodP n p
  fresh : allFresh [] st = true
theorem stock_cases {note : Str} (h : Sm note) :
    (∃ (j : Nat) (n : Int) (st ps : Tps), readD 24 0 note = [.int j, .int n, .lst (tupsD st), .lst (tupsD ps)] ∧ m_parse_stock c [.str note] = .exc (xNote c j)) ∨
    (∃ (n : Int) (st : Tps), readD 24 0 note = [.non, .int n, .lst (tupsD st), .lst []] ∧ m_parse_stock c [.str note] = .ok (stockD c n st) ∧ OkStock n st 24 ∧ note = Str.join "\n" (fstN n :: st.map lineP)) := by
  rw [parse_stock_is h]
  unfold readD stockR
  have hj := note_lines note
  match hw : nl note with
  | [] => exact absurd hw (split_ne _ _)
  | l0 :: ls =>
    rw [hw] at hj
    have hS : ∀ l ∈ ls, Sm l := fun l hl => nl_sm h (by rw [hw]; exact List.mem_cons_of_mem _ hl)
    dsimp only
    cases hsz : sizeIn l0 with
    | none => exact .inl ⟨0, 0, [], [], rfl, rfl⟩
    | some n =>
      dsimp only
      obtain ⟨h0, h1⟩ := size_bounds hsz
      obtain ⟨k, hk, en, el⟩ := size_is hsz
      have hr := rd_rdS (n := n) (most := 24) (count := 0) (b := []) ls 1 [] (fun _ _ => .inr rfl) rfl (Nat.zero_le _)
      rw [List.append_nil] at hr
      cases hrs : rdS n 24 ls 1 [] with
      | inl j =>
        rw [hrs] at hr
        obtain ⟨st', hr⟩ := hr
        rw [hr]
        exact .inl ⟨j, n, st', [], rfl, rfl⟩
      | inr st =>
        rw [hrs] at hr
        dsimp only at hr
        obtain ⟨⟨w, w1, w2⟩, a2, a3, a4⟩ := rdS_ok ls 1 [] st hS hrs rfl (Nat.zero_le _) (fun _ h => by cases h) rfl
        rw [List.nil_append] at w1
        subst w1
        rw [hr]
        refine .inr ⟨n, st, rfl, rfl, ⟨h0, h1, a2, a3, a4⟩, ?_⟩
        rw [← hj, w2, el, en]
        rfl
theorem box_cases {note : Str} (h : Sm note) :
    (∃ (j : Nat) (n : Int) (st ps : Tps), readD 7 4 note = [.int j, .int n, .lst (tupsD st), .lst (tupsD ps)] ∧ m_parse_box c [.str note] = .exc (xNote c j)) ∨
    (∃ (n : Int) (st ps : Tps), readD 7 4 note = [.non, .int n, .lst (tupsD st), .lst (tupsD ps)] ∧ m_parse_box c [.str note] = .ok (boxD c n st ps) ∧ OkStock n st 7 ∧ ps.length ≤ 4 ∧ (∀ p ∈ ps, p.1.length ≤ sizeLine ∧ p.2.length ≤ sizeLine) ∧ note = Str.join "\n" (fstN n :: (st.map lineP ++ ps.map linePr))) := by
  rw [parse_box_is h]
  unfold readD boxR
  have hj := note_lines note
  match hw : nl note with
  | [] => exact absurd hw (split_ne _ _)
  | l0 :: ls =>
    rw [hw] at hj
    have hS : ∀ l ∈ ls, Sm l := fun l hl => nl_sm h (by rw [hw]; exact List.mem_cons_of_mem _ hl)
    have hpr := pre_rest ls
    have hSp : ∀ l ∈ npre ls, Sm l := fun l hl => hS l (by rw [← hpr]; exact List.mem_append_left _ hl)
    have hSr : ∀ l ∈ nrest ls, Sm l := fun l hl => hS l (by rw [← hpr]; exact List.mem_append_right _ hl)
    unfold stockR
    dsimp only
    cases hsz : sizeIn l0 with
    | none => exact .inl ⟨0, 0, [], [], rfl, rfl⟩
    | some n =>
      dsimp only
      obtain ⟨h0, h1⟩ := size_bounds hsz
      obtain ⟨k, hk, en, el⟩ := size_is hsz
      have hr := rd_rdS (n := n) (most := 7) (count := 4) (b := nrest ls) (npre ls) 1 [] (fun l hl => .inl (pre_all ls l hl)) rfl (Nat.zero_le _)
      rw [hpr] at hr
      cases hrs : rdS n 7 (npre ls) 1 [] with
      | inl j =>
        rw [hrs] at hr
        obtain ⟨st', hr⟩ := hr
        rw [hr]
        exact .inl ⟨j, n, st', [], rfl, rfl⟩
      | inr st =>
        rw [hrs] at hr
        dsimp only at hr ⊢
        obtain ⟨⟨w, w1, w2⟩, a2, a3, a4⟩ := rdS_ok (npre ls) 1 [] st hSp hrs rfl (Nat.zero_le _) (fun _ h => by cases h) rfl
        rw [List.nil_append] at w1
        subst w1
        have hq := rd_rdP (n := n) (most := 7) (count := 4) (st := st) (nrest ls) (1 + (npre ls).length) [] (.inl fun l hl => rest_head ls l hl)
        rw [hr]
        cases hrp : rdP n 4 (nrest ls) (1 + (npre ls).length) [] with
        | inl j =>
          rw [hrp] at hq
          obtain ⟨ps', hq⟩ := hq
          rw [hq]
          exact .inl ⟨j, n, st, ps', rfl, rfl⟩
        | inr ps =>
          rw [hrp] at hq
          dsimp only at hq
          have hpl := rdP_len _ _ _ _ hrp (Nat.zero_le _)
          obtain ⟨⟨v, v1, v2⟩, b3⟩ := rdP_ok (nrest ls) (1 + (npre ls).length) [] ps hSr hrp (fun _ h => by cases h)
          rw [List.nil_append] at v1
          subst v1
          rw [hq]
          refine .inr ⟨n, st, ps, rfl, rfl, ⟨h0, h1, a2, a3, a4⟩, hpl, b3, ?_⟩
          rw [← hj, ← hpr, w2, v2, el, en]
          rfl
/-! #### told -/
def excOf (c : Ad) (j : Nat) : D := .lst [.non, .int j, .bl true]
theorem told_hand (j : Nat) (w note b : D) (o4 : Option Xv) : mh__law_told c 0 none (xNote c j) ⟨[some (.dat w), some (.dat note), some (.dat b), some (.dat (.exn 0 none [("line", .int j)])), o4], []⟩ = .ret (excOf c j) := by
  unfold mh__law_told
  rw [if_pos (show (xNote c j).c = c.BadNote from rfl)]
  unfold mh__law_told_BadNote excOf
  have hin : dNotIn (.bl true) (.lst [.bl false, .bl false, .bl false, .bl false, .bl false]) = some (.bl true) := rfl
  have hlk : List.lookup ("line" : Str) [(("line" : Str), D.int (j : Nat))] = some (.int j) := rfl
  simp -implicitDefEqProofs [xIs, xFld, sizeLine_eq, hin, hlk]
theorem told_stock {note : Str} (b : Bool) {r : Rs D} (hr : m_parse_stock c [.str note] = r) : m__law_told c [.str "stock", .str note, .bl b] = match r with
    | .ok d => .ok (.lst [d, .non, .bl true])
    | .exc e => if e.c = c.BadNote then endD (unset 3 (mh__law_told c 0 none e ⟨[some (.dat (.str "stock")), some (.dat (.str note)), some (.dat (.bl b)), some (.dat (.exn 0 none e.fs)), none], []⟩)) else .bad
    | .bad => .bad := by
  unfold m__law_told fnD mm__law_told
  have s0 : startX 5 [.str "stock", .str note, .bl b] = ⟨[some (.dat (.str "stock")), some (.dat (.str note)), some (.dat (.bl b)), none, none], []⟩ := rfl
  rw [if_pos (by rfl), s0]
  unfold sTry
  cases b <;> cases r with
  | ok d => simp -implicitDefEqProofs [hr, sizeLine_eq]
  | exc e =>
    simp -implicitDefEqProofs [hr, sizeLine_eq, mc__law_told]
    by_cases h : e.c = c.BadNote <;> simp -implicitDefEqProofs [h]
  | bad => simp -implicitDefEqProofs [hr, sizeLine_eq]
theorem told_box {note : Str} (b : Bool) {r : Rs D} (hr : m_parse_box c [.str note] = r) : m__law_told c [.str "box", .str note, .bl b] = match r with
    | .ok d => .ok (.lst [d, .non, .bl true])
    | .exc e => if e.c = c.BadNote then endD (unset 3 (mh__law_told c 0 none e ⟨[some (.dat (.str "box")), some (.dat (.str note)), some (.dat (.bl b)), some (.dat (.exn 0 none e.fs)), none], []⟩)) else .bad
    | .bad => .bad := by
  unfold m__law_told fnD mm__law_told
  have s0 : startX 5 [.str "box", .str note, .bl b] = ⟨[some (.dat (.str "box")), some (.dat (.str note)), some (.dat (.bl b)), none, none], []⟩ := rfl
  have hne : (("box" : Str) == "stock") = false := by decide
  rw [if_pos (by rfl), s0]
  unfold sTry
  cases b <;> cases r with
  | ok d => simp -implicitDefEqProofs [hr, sizeLine_eq, hne]
  | exc e =>
    simp -implicitDefEqProofs [hr, sizeLine_eq, mc__law_told, hne]
    by_cases h : e.c = c.BadNote <;> simp -implicitDefEqProofs [h]
  | bad => simp -implicitDefEqProofs [hr, sizeLine_eq, hne]
end
end LK
set_option Elab.async false
set_option linter.all false
set_option maxRecDepth 100000
set_option maxHeartbeats 1000000
namespace LK
open PySem PySem.Spec PyProof.Rows L2 DL
set_option autoImplicit false
section
variable {c : Ad}
/-! ### the law's own comparing -/
def nice : Nat → D → Bool
  | 0, _ => false
  | _ + 1, .non => true
  | _ + 1, .bl _ => true
  | _ + 1, .int _ => true
  | _ + 1, .str _ => true
  | n + 1, .tup xs => decide (xs.length ≤ 1000) && xs.all (nice n)
  | _ + 1, _ => false
theorem whole_int (i : Int) : m__law_whole c [.int i] = .ok (.bl true) := by
  unfold m__law_whole fnD mm__law_whole
  simp -implicitDefEqProofs [startX]
theorem alike_loop {rec : List D → Rs D} {xs : List D} (hl : xs.length ≤ 1000) (h : ∀ d ∈ xs, rec [d, d] = .ok (.bl true)) : ∃ y, lp__law_alike_1 c rec ⟨[some (.dat (.tup xs)), some (.dat (.tup xs)), none], []⟩ = .nx ⟨[some (.dat (.tup xs)), some (.dat (.tup xs)), y], []⟩ := by
  obtain ⟨s', e, x, rfl⟩ := forL_all (α := Nat) (σ := Unit) (itm := fun i => D.int (0 + (i : Nat))) (f := gN 2) (body := lb__law_alike_1 c rec) (fun _ s => ∃ x, s = ⟨[some (.dat (.tup xs)), some (.dat (.tup xs)), x], []⟩) (fun _ _ => ()) (List.range xs.length) () ⟨[some (.dat (.tup xs)), some (.dat (.tup xs)), none], []⟩ (fun i hi _ s hs => by
    obtain ⟨x, rfl⟩ := hs
    have hx := List.mem_range.mp hi
    have hat : atI xs (0 + (i : Int)) = some xs[i] := by
      rw [Int.zero_add]
      exact atI_nat (List.getElem?_eq_getElem hx)
    have hr := h xs[i] (List.getElem_mem hx)
    refine ⟨_, ⟨[some (.dat (.tup xs)), some (.dat (.tup xs)), some (.dat (.int (0 + (i : Nat))))], []⟩, rfl, ?_, _, rfl⟩
    unfold lb__law_alike_1
    simp -implicitDefEqProofs only [q_put, List.set_cons_succ, List.set_cons_zero, q_sIf, q_tBs, q_bNot, q_envB, List.map_cons, List.map_nil, Option.bind_some, q_baseX_dat, q_aCons, q_e2, q_eVar0, q_eVarS, Rs.bind_ok, q_ix_tup, hat, ofO_some, hr, q_toB, Bool.not_true, q_oX_ok, q_sNil, q_nxOf_nx, Bool.false_eq_true, if_false]) ⟨none, rfl⟩
  refine ⟨x, ?_⟩
  unfold lp__law_alike_1
  rw [q_sFor]
  have hit : (iRg rng1 (aCons (eCb cLen (aCons (eVar 1 (envB ⟨[some (.dat (.tup xs)), some (.dat (.tup xs)), none], []⟩)) (Rs.ok []))) (Rs.ok []))) = .ok (DL.upTo 0 xs.length) := by
    simp -implicitDefEqProofs only [q_envB, List.map_cons, List.map_nil, Option.bind_some, q_baseX_dat, q_eVarS, q_eVar0, q_eCb, q_aCons, Rs.bind_ok, q_cLen, q_len_tup, Option.map_some, ofO_some, q_iRg]
    rw [q_rng1, if_pos (DL.rg_small (by omega)), Int.toNat_natCast, ofO_some]
  rw [hit]
  exact e
theorem alike_self : ∀ (n : Nat) (d : D), nice n d = true → m__law_alike c n [d, d] = .ok (.bl true)
  | 0, _, h => by cases h
  | n + 1, d, h => by
    unfold m__law_alike fnD mg__law_alike
    cases d with
    | non => simp -implicitDefEqProofs [startX]
    | bl b => cases b <;> simp -implicitDefEqProofs [startX, isBlD]
    | int i =>
      have hw := whole_int (c := c) i
      simp -implicitDefEqProofs [startX, isBlD, hw]
    | str x => simp -implicitDefEqProofs [startX, isBlD]
    | tup xs =>
      have h : (decide (xs.length ≤ 1000) && xs.all (nice n)) = true := h
      rw [Bool.and_eq_true, decide_eq_true_eq, List.all_eq_true] at h
      obtain ⟨y, hlp⟩ := alike_loop (c := c) (rec := m__law_alike c n) h.1 (fun d hd => alike_self n d (h.2 d hd))
      simp -implicitDefEqProofs [startX, isBlD, hlp]
    | _ => cases h
theorem nice_tups (ps : Tps) (k : Nat) (h : ps.length ≤ 1000) : nice (k + 3) (.tup (tupsD ps)) = true := by
  show (decide ((tupsD ps).length ≤ 1000) && (tupsD ps).all (nice (k + 2))) = true
  rw [tupsD_len, Bool.and_eq_true, decide_eq_true_eq, List.all_eq_true]
  refine ⟨h, fun d hd => ?_⟩
  obtain ⟨p, _, rfl⟩ := List.mem_map.mp hd
  rfl
theorem nice_strs (xs : List Str) (k : Nat) (h : xs.length ≤ 1000) : nice (k + 2) (.tup (xs.map .str)) = true := by
  show (decide ((xs.map D.str).length ≤ 1000) && (xs.map D.str).all (nice (k + 1))) = true
  rw [List.length_map, Bool.and_eq_true, decide_eq_true_eq, List.all_eq_true]
  refine ⟨h, fun d hd => ?_⟩
  obtain ⟨p, _, rfl⟩ := List.mem_map.mp hd
  rfl
theorem plD_tups (ps : Tps) : plD 2 (.tup (tupsD ps)) = true := by
  show (tupsD ps).all (plD 1) = true
  rw [List.all_eq_true]
  intro d hd
  obtain ⟨p, _, rfl⟩ := List.mem_map.mp hd
  rfl
/-! ### texts given -/
theorem join_sum (y : Str) : ∀ xs : List Str, (xs.map (·.length)).sum + xs.length * y.length ≤ (Str.join y xs).length + y.length
  | [] => by simp
  | [z] => by
    show (z.length + 0) + 1 * y.length ≤ z.length + y.length
    omega
  | z :: u :: r => by
    have e : Str.join y (z :: u :: r) = z ++ y ++ Str.join y (u :: r) := rfl
    have ih := join_sum y (u :: r)
    rw [e, len_app, len_app, List.map_cons, List.sum_cons, List.length_cons, Nat.succ_mul]
    omega
theorem join_is {lines : List Str} {note : Str} (h : Sm note) (e : note = Str.join "\n" lines) : mJoin (.str "\n") [.lst (lines.map .str)] = some (.str note) := by
  have hs := join_sum "\n" lines
  have hl : ("\n" : Str).length = 1 := by decide
  rw [← e, hl] at hs
  unfold Sm at h
  unfold mJoin
  dsimp only
  rw [strsOf_map]
  show joinOk "\n" lines = _
  unfold joinOk
  rw [hl, if_pos (by omega), e]
  show some (D.str (Txt.join "\n" lines)) = _
  rw [show Txt.join "\n" lines = Str.join "\n" lines from PySem.StrLaws.glued_eq_join ..]
theorem num_ok {n : Int} (h0 : 1 ≤ n) (h1 : n ≤ 30) : (toString n : Str).length ≤ 10 ∧ n.natAbs.log2 < 1920 := by
  have := num_fin (n - 1).toNat (by omega)
  have e : 1 + (((n - 1).toNat : Nat) : Int) = n := by omega
  rwa [e] at this
theorem lines_short {n : Int} {st : Tps} {m : Nat} (h : OkStock n st m) : ∀ p ∈ st, p.1.length ≤ 8 ∧ p.2.length ≤ 30 := by
  intro p hp
  have := (h.good p hp).1
  unfold okSt isName layerOf at this
  simp only [Bool.and_eq_true, decide_eq_true_eq] at this
  have h1 := h.n1
  omega
theorem stock_lines_is {n : Int} {st : Tps} {m : Nat} (h : OkStock n st m) (hm : m ≤ 100) : m_stock_lines c [stockD c n st] = .ok (.lst ((fstN n :: st.map lineP).map .str)) := by
  unfold m_stock_lines fnD mm_stock_lines
  have hsh := lines_short h
  have hlen := h.len
  have hsz : List.lookup ("size" : Str) (stockF n st) = some (.int n) := rfl
  have hsm : List.lookup ("stamps" : Str) (stockF n st) = some (.tup (tupsD st)) := rfl
  have hlc : ∀ d, lcL (cTupD 2 (csCons (cN 1) (csCons (cN 2) csNil))) cTrue (le_stock_lines_1 c) (wipeE [some d, none, none] [1, 2]) (tupsD st) = .ok (st.map fun p => .str (lineP p)) := fun d => by
    refine lc_mapF (itm := tupD) st fun p hp => ⟨[some d, some (.str p.1), some (.str p.2)], rfl, ?_⟩
    obtain ⟨a1, a2⟩ := hsh p hp
    have b1 : p.1.length ≤ 16777216 := by omega
    have b2 : p.2.length ≤ 16777216 := by omega
    have e0 : Str.empty ++ p.1 = p.1 := nil_app p.1
    have e1 : (p.1 ++ " ").length ≤ 16777216 := by
      rw [len_app]
      have : (" " : Str).length = 1 := by decide
      omega
    have e2 : (p.1 ++ " " ++ p.2).length ≤ 16777216 := by
      rw [len_app, len_app]
      have : (" " : Str).length = 1 := by decide
      omega
    simp -implicitDefEqProofs [le_stock_lines_1, b1, b2, sizeLine_eq, e0, e1, e2, lineP]
  have hn := num_ok h.n0 h.n1
  have h6 : ("stock " : Str).length = 6 := by decide
  have l6 : (6 : Nat) ≤ 16777216 := by omega
  have e0 : Str.empty ++ ("stock " : Str) = "stock " := nil_app _
  have e1 : (("stock " : Str) ++ toString n).length ≤ 16777216 := by
    rw [len_app, h6]
    omega
  have hl : (tupsD st).length ≤ 16777216 := by
    rw [tupsD_len]
    omega
  have hl2 : st.length + 1 ≤ 16777216 := by omega
  have hl3 : st.length ≤ 16777216 := by omega
  simp -implicitDefEqProofs [startX, stockD, hsz, hsm, h6, l6, sizeLine_eq, e0, e1, hn.2, q_eLc, hlc, hl, hl2, hl3, seqOf, fstN, tupsD_len]
  rw [if_pos (by exact e1)]
  rfl
theorem format_stock_is {n : Int} {st : Tps} {m : Nat} {note : Str} (h : OkStock n st m) (hm : m ≤ 100) (hs : Sm note) (e : note = Str.join "\n" (fstN n :: st.map lineP)) : m_format_stock c [stockD c n st] = .ok (.str note) := by
  unfold m_format_stock fnD mm_format_stock
  have h1 := stock_lines_is (c := c) h hm
  have h2 := join_is hs e
  rw [List.map_cons] at h1 h2
  simp -implicitDefEqProofs only [startX, List.map_cons, List.map_nil, List.cons_append, List.nil_append, List.length_cons, List.length_nil, q_sRet, q_rB, q_envB, Option.bind_some, q_baseX_dat, q_eMb, q_aCons, q_eVar0, Rs.bind_ok, h1, q_isT_str, if_true, h2, ofO_some, q_oX_ok, q_endD_ret]
end
end LK
set_option Elab.async false
set_option linter.all false
set_option maxRecDepth 100000
set_option maxHeartbeats 1000000
namespace LK
open PySem PySem.Spec PyProof.Rows L2 DL
set_option autoImplicit false
section
variable {c : Ad}
theorem format_box_is {n : Int} {st ps : Tps} {m : Nat} {note : Str} (h : OkStock n st m) (hm : m ≤ 100) (hpl : ps.length ≤ 100) (hps : ∀ p ∈ ps, p.1.length + p.2.length ≤ 100000) (hs : Sm note) (e : note = Str.join "\n" (fstN n :: (st.map lineP ++ ps.map linePr))) : m_format_box c [boxD c n st ps] = .ok (.str note) := by
  unfold m_format_box fnD mm_format_box
  have h1 := stock_lines_is (c := c) h hm
  have h2 := join_is hs e
  have hlen := h.len
  have hst : List.lookup ("stock" : Str) (boxF c n st ps) = some (stockD c n st) := rfl
  have hpr : List.lookup ("pairs" : Str) (boxF c n st ps) = some (.tup (tupsD ps)) := rfl
  have hlc : ∀ d, lcL (cTupD 2 (csCons (cN 1) (csCons (cN 2) csNil))) cTrue (le_format_box_1 c) (wipeE [some d, none, none] [1, 2]) (tupsD ps) = .ok (ps.map fun p => .str (linePr p)) := fun d => by
    refine lc_mapF (itm := tupD) ps fun p hp => ⟨[some d, some (.str p.1), some (.str p.2)], rfl, ?_⟩
    have a := hps p hp
    have b1 : p.1.length ≤ 16777216 := by omega
    have b2 : p.2.length ≤ 16777216 := by omega
    have l1 : (" " : Str).length = 1 := by decide
    have l4 : ("pair" : Str).length = 4 := by decide
    have e0 : Str.empty ++ ("pair" : Str) = "pair" := nil_app _
    have l4' : (4 : Nat) ≤ 16777216 := by omega
    have e1 : (("pair" : Str) ++ " ").length ≤ 16777216 := by
      rw [len_app, l1, l4]
      omega
    have e2 : (("pair" : Str) ++ " " ++ p.1).length ≤ 16777216 := by
      rw [len_app, len_app, l1, l4]
      omega
    have e3 : (("pair" : Str) ++ " " ++ p.1 ++ " ").length ≤ 16777216 := by
      rw [len_app, len_app, len_app, l1, l4]
      omega
    have e4 : (("pair" : Str) ++ " " ++ p.1 ++ " " ++ p.2).length ≤ 16777216 := by
      rw [len_app, len_app, len_app, len_app, l1, l4]
      omega
    simp -implicitDefEqProofs [le_format_box_1, b1, b2, sizeLine_eq, e0, e1, e2, e3, e4, l4, l4', linePr]
  have hl : (tupsD ps).length ≤ 16777216 := by
    rw [tupsD_len]
    omega
  have hl2 : st.length + 1 + ps.length ≤ 16777216 := by omega
  have hl4 : st.length + ps.length + 1 ≤ 16777216 := by omega
  have hl3 : ps.length ≤ 16777216 := by omega
  rw [List.map_cons] at h1 h2
  have hcomp : (D.str ∘ linePr) = fun p => .str (linePr p) := rfl
  rw [List.map_append, List.map_map, List.map_map] at h2
  rw [List.map_map] at h1
  simp -implicitDefEqProofs [startX, boxD, hst, hpr, h1, sizeLine_eq, q_eLc, hlc, hl, hl2, hl3, hl4, seqOf, tupsD_len]
  rw [hcomp] at h2
  rw [h2]
  rfl
theorem names_is (n : Int) (st : Tps) (h : st.length ≤ 1000) : m_Stock_names c [stockD c n st] = .ok (.tup (st.map fun p => .str p.1)) := by
  unfold m_Stock_names fnD mm_Stock_names
  have hsm : List.lookup ("stamps" : Str) (stockF n st) = some (.tup (tupsD st)) := rfl
  have hlc : ∀ d, lcL (cN 1) cTrue (le_Stock_names_1 c) (wipeE [some d, none] [1]) (tupsD st) = .ok (st.map fun p => .str p.1) := fun d => lc_mapA st fun p _ => by simp -implicitDefEqProofs [le_Stock_names_1, wipeE, tupD, atI_zero]
  have hl : st.length ≤ 16777216 := by omega
  simp -implicitDefEqProofs [startX, stockD, hsm, q_eLc, hlc, tupsD_len, hl, sizeLine_eq]
theorem stock_eq (n : Int) (st : Tps) : m_Stock___eq__ c [stockD c n st, stockD c n st] = .ok (.bl true) := by
  unfold m_Stock___eq__ fnD mm_Stock___eq__
  have hsz : List.lookup ("size" : Str) (stockF n st) = some (.int n) := rfl
  have hsm : List.lookup ("stamps" : Str) (stockF n st) = some (.tup (tupsD st)) := rfl
  have he := dEq_self (by omega) (plD_tups st)
  simp -implicitDefEqProofs [startX, stockD, hsz, hsm, he]
theorem is_stock_is {n : Int} {st : Tps} {m : Nat} (h : OkStock n st m) (hm : m ≤ 100) : m__law_is_stock c [stockD c n st, .int n, .lst (tupsD st)] = .ok (.bl true) := by
  have hlen := h.len
  have hsz : List.lookup ("size" : Str) (stockF n st) = some (.int n) := rfl
  have hsm : List.lookup ("stamps" : Str) (stockF n st) = some (.tup (tupsD st)) := rfl
  have ha1 := alike_self (c := c) 4 (.int n) rfl
  have ha2 := alike_self (c := c) 4 (.tup (tupsD st)) (nice_tups st 1 (by omega))
  have hn := names_is (c := c) n st (by omega)
  have ha3 := alike_self (c := c) 4 (.tup ((st.map (·.1)).map .str)) (nice_strs _ 2 (by rw [List.length_map]; omega))
  rw [List.map_map] at ha3
  have hcomp : (D.str ∘ fun p : Str × Str => p.1) = fun p => .str p.1 := rfl
  rw [hcomp] at ha3
  have hlc : ∀ d0 d1 d2, lcL (cN 3) cTrue (le__law_is_stock_1 c) (wipeE [some d0, some d1, some d2, none] [3]) (tupsD st) = .ok (st.map fun p => .str p.1) := fun d0 d1 d2 => lc_mapA st fun p _ => by simp -implicitDefEqProofs [le__law_is_stock_1, wipeE, tupD, atI_zero]
  have hfr := frozen_pairs (c := c) false st (by omega)
  rw [← tupsD_pair] at hfr
  have hinit := init_ok (c := c) hfr h.n0 h.n1 (by omega) h.good h.fresh
  have heq := stock_eq (c := c) n st
  have hl : st.length ≤ 16777216 := by omega
  unfold stockD at *
  unfold m__law_is_stock fnD mm__law_is_stock
  simp -implicitDefEqProofs [startX, hsz, hsm, ha1, ha2, hn, eProp, q_eLc, hlc, tupsD_len, hl, sizeLine_eq, ha3, eEqI, hinit, heq, toBl]
/-! ### what is asked of a text -/
theorem told_stock_exc {note : Str} {j : Nat} (b : Bool) (hr : m_parse_stock c [.str note] = .exc (xNote c j)) : m__law_told c [.str "stock", .str note, .bl b] = .ok (excOf c j) := by
  rw [told_stock b hr]
  dsimp only
  rw [if_pos (show (xNote c j).c = c.BadNote from rfl)]
  have := told_hand (c := c) j (.str "stock") (.str note) (.bl b) none
  have e : (xNote c j).fs = [(("line" : Str), D.int j)] := rfl
  rw [e, this]
  rfl
theorem told_box_exc {note : Str} {j : Nat} (b : Bool) (hr : m_parse_box c [.str note] = .exc (xNote c j)) : m__law_told c [.str "box", .str note, .bl b] = .ok (excOf c j) := by
  rw [told_box b hr]
  dsimp only
  rw [if_pos (show (xNote c j).c = c.BadNote from rfl)]
  have := told_hand (c := c) j (.str "box") (.str note) (.bl b) none
  have e : (xNote c j).fs = [(("line" : Str), D.int j)] := rfl
  rw [e, this]
  rfl
theorem ix0 (a b d e : D) : atI [a, b, d, e] 0 = some a := rfl
theorem ix1 (a b d e : D) : atI [a, b, d, e] 1 = some b := rfl
theorem ix2 (a b d e : D) : atI [a, b, d, e] 2 = some d := rfl
theorem ix3 (a b d e : D) : atI [a, b, d, e] 3 = some e := rfl
theorem jx0 (a b d : D) : atI [a, b, d] 0 = some a := rfl
theorem jx1 (a b d : D) : atI [a, b, d] 1 = some b := rfl
theorem jx2 (a b d : D) : atI [a, b, d] 2 = some d := rfl
theorem stock_asked {note : Str} (h : Sm note) (b : Bool) : m__law_stock_asked c [.str note, .bl b] = .ok (.bl true) := by
  have hread := law_read_is (c := c) (most := 24) (count := 0) h (by omega) (by omega)
  rw [show ((24 : Nat) : Int) = 24 from rfl, show ((0 : Nat) : Int) = 0 from rfl] at hread
  unfold m__law_stock_asked fnD mm__law_stock_asked
  rcases stock_cases (c := c) h with ⟨j, n, st, ps, h1, h2⟩ | ⟨n, st, h1, h2, h3, h4⟩
  · rw [h1] at hread
    have ht := told_stock_exc b h2
    have ha := alike_self (c := c) 4 (.int j) rfl
    unfold excOf at ht
    simp -implicitDefEqProofs [startX, hread, ht, ix0, jx0, jx1, jx2, isBlD, ha]
  · rw [h1] at hread
    have ht := told_stock b h2
    have hf := format_stock_is (c := c) h3 (by omega) h h4
    have hi := is_stock_is (c := c) h3 (by omega)
    have ha := alike_self (c := c) 4 (.str note) rfl
    simp -implicitDefEqProofs [startX, hread, ht, ix0, ix1, ix2, jx0, jx1, jx2, isBlD, ha, hf, hi]
theorem box_eq (n : Int) (st ps : Tps) : m_Box___eq__ c [boxD c n st ps, boxD c n st ps] = .ok (.bl true) := by
  unfold m_Box___eq__ fnD mm_Box___eq__
  have hst : List.lookup ("stock" : Str) (boxF c n st ps) = some (stockD c n st) := rfl
  have hpr : List.lookup ("pairs" : Str) (boxF c n st ps) = some (.tup (tupsD ps)) := rfl
  have he := dEq_self (by omega) (plD_tups ps)
  have hs := stock_eq (c := c) n st
  unfold stockD at hs hst
  simp -implicitDefEqProofs [startX, boxD, hst, hpr, he, eEqI, hs, toBl]
theorem box_len (n : Int) (st ps : Tps) : m_Box___len__ c [boxD c n st ps] = .ok (.int ps.length) := by
  unfold m_Box___len__ fnD mm_Box___len__
  have hpr : List.lookup ("pairs" : Str) (boxF c n st ps) = some (.tup (tupsD ps)) := rfl
  simp -implicitDefEqProofs [startX, boxD, hpr, tupsD_len]
theorem asked_true {note : Str} (h : Sm note) (b : Bool) : m__law_asked c [.str note, .bl b] = .ok (.bl true) := by
  have hread := law_read_is (c := c) (most := 7) (count := 4) h (by omega) (by omega)
  rw [show ((7 : Nat) : Int) = 7 from rfl, show ((4 : Nat) : Int) = 4 from rfl] at hread
  have hsa := stock_asked (c := c) h b
  unfold m__law_asked fnD mm__law_asked
  rcases box_cases (c := c) h with ⟨j, n, st, ps, h1, h2⟩ | ⟨n, st, ps, h1, h2, h3, h4, h5, h6⟩
  · rw [h1] at hread
    have ht := told_box_exc (!b) h2
    have ha := alike_self (c := c) 4 (.int j) rfl
    unfold excOf at ht
    simp -implicitDefEqProofs [startX, hread, ht, ix0, jx0, jx1, jx2, isBlD, ha, hsa]
  · rw [h1] at hread
    have ht := told_box (!b) h2
    dsimp only at ht
    have hlen := h3.len
    have hf := format_box_is (c := c) h3 (by omega) (by omega) (fun p hp => by
      have hj := join_len "\n" (fstN n :: (st.map lineP ++ ps.map linePr)) (x := linePr p) (by
        refine List.mem_cons_of_mem _ (List.mem_append_right _ (List.mem_map.mpr ⟨p, hp, rfl⟩)))
      rw [← h6] at hj
      unfold Sm at h
      unfold linePr at hj
      rw [len_app, len_app, len_app, len_app] at hj
      omega) h h6
    have hi := is_stock_is (c := c) h3 (by omega)
    have ha := alike_self (c := c) 4 (.str note) rfl
    have hap := alike_self (c := c) 4 (.tup (tupsD ps)) (nice_tups ps 1 (by omega))
    have hal := alike_self (c := c) 4 (.int ps.length) rfl
    have hst : List.lookup ("stock" : Str) (boxF c n st ps) = some (stockD c n st) := rfl
    have hpr : List.lookup ("pairs" : Str) (boxF c n st ps) = some (.tup (tupsD ps)) := rfl
    have hfr := frozen_pairs (c := c) false st (by omega)
    rw [← tupsD_pair] at hfr
    have hinit := init_ok (c := c) hfr h3.n0 h3.n1 (by omega) h3.good h3.fresh
    have hfr2 := frozen_pairs (c := c) false ps (by omega)
    rw [← tupsD_pair] at hfr2
    have hbi := box_init (c := c) (n := n) (st := st) hfr2
    have hbe := box_eq (c := c) n st ps
    have hbl := box_len (c := c) n st ps
    have hl2 : (ps.length : Int) < 9223372036854775808 := by omega
    unfold boxD at *
    have hsd : D.ins c.Stock (stockF n st) = stockD c n st := rfl
    simp -implicitDefEqProofs [startX, hread, ht, ix0, ix1, ix2, ix3, jx0, jx1, jx2, isBlD, ha, hf, hi, hsa, hst, hpr, hap, hinit, hbi, hbe, hbl, eEqI, toBl, eLenI, toLen, tupsD_len, hal, hsd, hl2]
end
end LK
set_option Elab.async false
set_option linter.all false
set_option maxRecDepth 100000
set_option maxHeartbeats 1000000
namespace LK
open PySem PySem.Spec PyProof.Rows L2 DL
set_option autoImplicit false
section
variable {c : Ad}
/-! ### cells and digits of a script -/
theorem log_small {i : Int} (h0 : 0 ≤ i) (h : i < 2 ^ 64) : i.natAbs.log2 < 64 := by
  by_cases hz : i.natAbs = 0
  · rw [hz]; decide
  · have : i.natAbs < 2 ^ 64 := by omega
    exact (Nat.log2_lt hz).mpr this
theorem mul_ok {i j : Int} (h0 : 0 ≤ i) (h1 : i < 2 ^ 64) (h2 : 0 ≤ j) (h3 : j < 2 ^ 64) : CMulW i j := by
  have a := log_small h0 h1
  have b := log_small h2 h3
  unfold CMulW
  omega
theorem div_ok {i j : Int} (h2 : 0 < j) (h3 : j < 2 ^ 64) : CDivW i j := by
  have b := log_small (by omega) h3
  unfold CDivW
  omega
theorem cell_loop (ns0 : List Int) (k : Int) : ∀ (ns : List Int) (seed : Int) (x : Option Xv), 0 ≤ seed → seed < 1000003 → ∃ seed' x', 0 ≤ seed' ∧ seed' < 1000003 ∧
    forL (gN 3) (lb__law_cell_1 c) (ns.map .int) ⟨[some (.dat (.sq ns0)), some (.dat (.int k)), some (.dat (.int seed)), x], []⟩ = .nx ⟨[some (.dat (.sq ns0)), some (.dat (.int k)), some (.dat (.int seed')), x'], []⟩
  | [], seed, x, h0, h1 => ⟨seed, x, h0, h1, rfl⟩
  | n :: ns, seed, x, h0, h1 => by
    have hm : CMulW seed 31 := mul_ok h0 (by omega) (by omega) (by omega)
    obtain ⟨s', x', a1, a2, a3⟩ := cell_loop ns0 k ns ((seed * 31 + n % 1000003) % 1000003) (some (.dat (.int n))) (by omega) (by omega)
    refine ⟨s', x', a1, a2, ?_⟩
    rw [List.map_cons]
    unfold forL
    have hb : lb__law_cell_1 c ⟨[some (.dat (.sq ns0)), some (.dat (.int k)), some (.dat (.int seed)), some (.dat (.int n))], []⟩ = .nx ⟨[some (.dat (.sq ns0)), some (.dat (.int k)), some (.dat (.int ((seed * 31 + n % 1000003) % 1000003))), some (.dat (.int n))], []⟩ := by
      unfold lb__law_cell_1
      simp -implicitDefEqProofs [hm]
    have hg : gN 3 (.int n) ⟨[some (.dat (.sq ns0)), some (.dat (.int k)), some (.dat (.int seed)), x], []⟩ = some ⟨[some (.dat (.sq ns0)), some (.dat (.int k)), some (.dat (.int seed)), some (.dat (.int n))], []⟩ := rfl
    rw [hg]
    dsimp only
    rw [hb]
    exact a3
theorem cell_is (ns : List Int) {k : Int} (h0 : 0 ≤ k) (h1 : k ≤ 1000) : ∃ z, m__law_cell c [.sq ns, .int k] = .ok (.int z) := by
  unfold m__law_cell fnD mm__law_cell
  have s0 : startX 4 [.sq ns, .int k] = ⟨[some (.dat (.sq ns)), some (.dat (.int k)), none, none], []⟩ := rfl
  rw [if_pos (by rfl), s0]
  by_cases hk : k < (ns.length : Int)
  · have hj : k.toNat < ns.length := by omega
    have hat : atI ns k = some ns[k.toNat] := by
      have h := atI_nat (List.getElem?_eq_getElem hj)
      have e : ((k.toNat : Nat) : Int) = k := by omega
      rwa [e] at h
    refine ⟨ns[k.toNat], ?_⟩
    simp -implicitDefEqProofs [hk, hat]
  · obtain ⟨s', x', a1, a2, a3⟩ := cell_loop (c := c) ns k ns 17 none (by omega) (by omega)
    have hm : CMulW (s' + 7) (k + 3) := mul_ok (by omega) (by omega) (by omega) (by omega)
    have hb : (s' + 7) * (k + 3) ≤ 1000010 * 1003 := Int.mul_le_mul (by omega) (by omega) (by omega) (by omega)
    have hb0 : 0 ≤ (s' + 7) * (k + 3) := Int.mul_nonneg (by omega) (by omega)
    have hm2 : CMulW ((s' + 7) * (k + 3)) 69621 := mul_ok hb0 (by omega) (by omega) (by omega)
    refine ⟨(s' + 7) * (k + 3) * 69621 % 2147483647, ?_⟩
    have hlp : lp__law_cell_1 c ⟨[some (.dat (.sq ns)), some (.dat (.int k)), some (.dat (.int 17)), none], []⟩ = .nx ⟨[some (.dat (.sq ns)), some (.dat (.int k)), some (.dat (.int s')), x'], []⟩ := by
      unfold lp__law_cell_1
      rw [q_sFor]
      have hit : iItems (eVar 0 (envB ⟨[some (.dat (.sq ns)), some (.dat (.int k)), some (.dat (.int 17)), none], []⟩)) = .ok (ns.map .int) := by
        simp -implicitDefEqProofs
      rw [hit]
      exact a3
    simp -implicitDefEqProofs [hk, hlp, hm, hm2]
/-- digits below these sizes -/
def Dig (sizes row : List Int) : Prop := row.length = sizes.length ∧ ∀ (i : Nat) (x s : Int), row[i]? = some x → sizes[i]? = some s → 0 ≤ x ∧ x < s
theorem Dig.nil : Dig [] [] := ⟨rfl, fun i x s h => by cases h⟩
theorem Dig.cons {s x : Int} {ss xs : List Int} (h0 : 0 ≤ x) (h1 : x < s) (h : Dig ss xs) : Dig (s :: ss) (x :: xs) := by
  refine ⟨by rw [List.length_cons, List.length_cons, h.1], fun i y t hy ht => ?_⟩
  cases i with
  | zero =>
    simp at hy ht
    omega
  | succ i => exact h.2 i y t (by simpa using hy) (by simpa using ht)
theorem digits_loop1 (z d1 : D) : ∀ (ss row : List Int) (rest : Int) (x4 : Option Xv), (∀ s ∈ ss, 0 < s ∧ s < 2 ^ 60) → row.length + ss.length ≤ 100000 → ∃ (new : List Int) (rest' : Int) (y4 : Option Xv), Dig ss new ∧
    forL (gN 4) (lb__law_digits_1 c) (ss.map .int) ⟨[some (.dat z), some (.dat d1), some (.cell 0), some (.dat (.int rest)), x4, none, none, none], [some (.lst ((row.map D.int).map .dat))]⟩ =
      .nx ⟨[some (.dat z), some (.dat d1), some (.cell 0), some (.dat (.int rest')), y4, none, none, none], [some (.lst (((row ++ new).map D.int).map .dat))]⟩
  | [], row, rest, x4, _, _ => ⟨[], rest, x4, .nil, by rw [List.append_nil]; rfl⟩
  | s :: ss, row, rest, x4, hs, hl => by
    obtain ⟨s0, s1⟩ := hs s (List.mem_cons_self ..)
    obtain ⟨new, rest', y4, a1, a2⟩ := digits_loop1 z d1 ss (row ++ [rest % s]) (rest / s) (some (.dat (.int s))) (fun q hq => hs q (List.mem_cons_of_mem _ hq)) (by simp at hl ⊢; omega)
    refine ⟨rest % s :: new, rest', y4, .cons (Int.emod_nonneg _ (by omega)) (Int.emod_lt_of_pos _ s0) a1, ?_⟩
    have hd : CDivW rest s := div_ok s0 (by omega)
    rw [List.length_cons] at hl
    have hl2 : row.length < sizeLine := by
      rw [sizeLine_eq]
      omega
    rw [List.map_cons]
    unfold forL
    have hb : lb__law_digits_1 c ⟨[some (.dat z), some (.dat d1), some (.cell 0), some (.dat (.int rest)), some (.dat (.int s)), none, none, none], [some (.lst ((row.map D.int).map .dat))]⟩ = .nx ⟨[some (.dat z), some (.dat d1), some (.cell 0), some (.dat (.int (rest / s))), some (.dat (.int s)), none, none, none], [some (.lst (((row ++ [rest % s]).map D.int).map .dat))]⟩ := by
      unfold lb__law_digits_1
      simp -implicitDefEqProofs [s0, hd, hl2]
    have hg : gN 4 (.int s) ⟨[some (.dat z), some (.dat d1), some (.cell 0), some (.dat (.int rest)), x4, none, none, none], [some (.lst ((row.map D.int).map .dat))]⟩ = some ⟨[some (.dat z), some (.dat d1), some (.cell 0), some (.dat (.int rest)), some (.dat (.int s)), none, none, none], [some (.lst ((row.map D.int).map .dat))]⟩ := rfl
    rw [hg]
    dsimp only
    rw [hb]
    dsimp only
    rw [a2, List.append_assoc]
    rfl
theorem digits_loop2 (z : D) (r3 : Int) {sizes : List Int} : ∀ (ss pre row : List Int) (seed : Int) (x6 x7 : Option Xv), sizes = pre ++ ss → (∀ s ∈ ss, 0 < s ∧ s < 2 ^ 60) → row.length = pre.length → sizes.length ≤ 100000 → 0 ≤ seed → seed < 2147483647 → ∃ (new : List Int) (seed' : Int) (y6 y7 : Option Xv), Dig ss new ∧
    forL (gN 6) (lb__law_digits_2 c) (DL.upTo (pre.length : Nat) ss.length) ⟨[some (.dat z), some (.dat (.lst (sizes.map .int))), some (.cell 0), some (.dat (.int r3)), none, some (.dat (.int seed)), x6, x7], [some (.lst ((row.map D.int).map .dat))]⟩ =
      .nx ⟨[some (.dat z), some (.dat (.lst (sizes.map .int))), some (.cell 0), some (.dat (.int r3)), none, some (.dat (.int seed')), y6, y7], [some (.lst (((row ++ new).map D.int).map .dat))]⟩
  | [], pre, row, seed, x6, x7, _, _, _, _, _, _ => ⟨[], seed, x6, x7, .nil, by rw [List.append_nil]; rfl⟩
  | s :: ss, pre, row, seed, x6, x7, e, hs, hr, hl, h0, h1 => by
    obtain ⟨s0, s1⟩ := hs s (List.mem_cons_self ..)
    have hk : sizes[pre.length]? = some s := by rw [e]; simp
    have hk2 : atI (sizes.map D.int) (pre.length : Int) = some (.int s) := atI_nat (by rw [List.getElem?_map, hk]; rfl)
    have hle : pre.length < sizes.length := (List.getElem?_eq_some_iff.mp hk).1
    have hl2 : row.length < sizeLine := by
      rw [sizeLine_eq]
      omega
    obtain ⟨t, ht⟩ : ∃ t, t = (seed * 48271 + 974711 * (pre.length : Int) + 12345) % 2147483647 := ⟨_, rfl⟩
    have t0 : 0 ≤ t ∧ t < 2147483647 := by omega
    obtain ⟨q, hq⟩ : ∃ q, q = t * (t / 65537 + 3) % 2147483629 := ⟨_, rfl⟩
    have q0 : 0 ≤ q ∧ q < 2147483629 := by
      rw [hq]
      exact ⟨Int.emod_nonneg _ (by omega), Int.emod_lt_of_pos _ (by omega)⟩
    have m1 : CMulW seed 48271 := mul_ok h0 (by omega) (by omega) (by omega)
    have m2 : CMulW 974711 (pre.length : Int) := mul_ok (by omega) (by omega) (by omega) (by omega)
    have m3 : CMulW t (t / 65537 + 3) := mul_ok t0.1 (by omega) (by omega) (by omega)
    have d1 : CDivW t 65537 := div_ok (by omega) (by omega)
    have d2 : CDivW q 19 := div_ok (by omega) (by omega)
    obtain ⟨new, seed', y6, y7, a1, a2⟩ := digits_loop2 z r3 ss (pre ++ [s]) (row ++ [q / 19 % s]) t (some (.dat (.int (pre.length : Nat)))) (some (.dat (.int q))) (by rw [e]; simp) (fun q hq => hs q (List.mem_cons_of_mem _ hq)) (by simp [hr]) hl t0.1 t0.2
    refine ⟨q / 19 % s :: new, seed', y6, y7, .cons (Int.emod_nonneg _ (by omega)) (Int.emod_lt_of_pos _ s0) a1, ?_⟩
    rw [List.length_cons, upTo_cons]
    unfold forL
    have hb : lb__law_digits_2 c ⟨[some (.dat z), some (.dat (.lst (sizes.map .int))), some (.cell 0), some (.dat (.int r3)), none, some (.dat (.int seed)), some (.dat (.int (pre.length : Nat))), x7], [some (.lst ((row.map D.int).map .dat))]⟩ = .nx ⟨[some (.dat z), some (.dat (.lst (sizes.map .int))), some (.cell 0), some (.dat (.int r3)), none, some (.dat (.int t)), some (.dat (.int (pre.length : Nat))), some (.dat (.int q))], [some (.lst (((row ++ [q / 19 % s]).map D.int).map .dat))]⟩ := by
      unfold lb__law_digits_2
      simp -implicitDefEqProofs [m1, m2, ← ht, m3, d1, ← hq, d2, hk2, s0, hl2]
    have hg : gN 6 (.int (pre.length : Nat)) ⟨[some (.dat z), some (.dat (.lst (sizes.map .int))), some (.cell 0), some (.dat (.int r3)), none, some (.dat (.int seed)), x6, x7], [some (.lst ((row.map D.int).map .dat))]⟩ = some ⟨[some (.dat z), some (.dat (.lst (sizes.map .int))), some (.cell 0), some (.dat (.int r3)), none, some (.dat (.int seed)), some (.dat (.int (pre.length : Nat))), x7], [some (.lst ((row.map D.int).map .dat))]⟩ := rfl
    rw [hg]
    dsimp only
    rw [hb]
    dsimp only
    have e2 : ((pre ++ [s]).length : Nat) = pre.length + 1 := by simp
    rw [e2] at a2
    have e3 : ((pre.length : Nat) : Int) + 1 = ((pre.length + 1 : Nat) : Int) := by omega
    rw [e3, a2, List.append_assoc]
    rfl
theorem pow18 : CPow 10 18 := ⟨by omega, by omega, by decide⟩
theorem digits_is (z : Int) {sizes : List Int} (hs : ∀ s ∈ sizes, 0 < s ∧ s < 2 ^ 60) (hl : sizes.length ≤ 100000) : ∃ row, Dig sizes row ∧ m__law_digits c [.int z, .lst (sizes.map .int)] = .ok (.lst (row.map .int)) := by
  unfold m__law_digits fnD mm__law_digits
  have s0 : startX 8 [.int z, .lst (sizes.map .int)] = ⟨[some (.dat (.int z)), some (.dat (.lst (sizes.map .int))), none, none, none, none, none, none], []⟩ := rfl
  rw [if_pos (by rfl), s0]
  have w1 : sNew 2 (nB fun δ => (nLst (Rs.ok []))) ⟨[some (.dat (.int z)), some (.dat (.lst (sizes.map .int))), none, none, none, none, none, none], []⟩ = .nx ⟨[some (.dat (.int z)), some (.dat (.lst (sizes.map .int))), some (.cell 0), none, none, none, none, none], [some (.lst [])]⟩ := by
    simp -implicitDefEqProofs [sizeLine_eq]
  have w2 : sSet 3 (xB fun δ => (eCb cInt (aCons (eVar 0 δ) (Rs.ok [])))) ⟨[some (.dat (.int z)), some (.dat (.lst (sizes.map .int))), some (.cell 0), none, none, none, none, none], [some (.lst [])]⟩ = .nx ⟨[some (.dat (.int z)), some (.dat (.lst (sizes.map .int))), some (.cell 0), some (.dat (.int z)), none, none, none, none], [some (.lst [])]⟩ := by
    simp -implicitDefEqProofs
  rw [seq_nx w1, seq_nx w2]
  have hp : dPow (.int 10) (.int 18) = some (.int 1000000000000000000) := by
    show (if CPow 10 18 then some (D.int (10 ^ (18 : Int).toNat)) else none) = _
    rw [if_pos pow18]
    rfl
  by_cases hz : (1000000000000000000 : Int) ≤ z
  · obtain ⟨new, rest', y4, a1, a2⟩ := digits_loop1 (c := c) (.int z) (.lst (sizes.map .int)) sizes [] (z - 1000000000000000000) none hs (by simpa using hl)
    refine ⟨new, a1, ?_⟩
    refine (congrArg endD (seq_yes ?_)).trans ?_
    · simp -implicitDefEqProofs [hp, hz]
    have w3 : sSet 3 (xB fun δ => (e2 dSub (eVar 3 δ) (e2 dPow (Rs.ok (.int 10)) (Rs.ok (.int 18))))) ⟨[some (.dat (.int z)), some (.dat (.lst (sizes.map .int))), some (.cell 0), some (.dat (.int z)), none, none, none, none], [some (.lst [])]⟩ = .nx ⟨[some (.dat (.int z)), some (.dat (.lst (sizes.map .int))), some (.cell 0), some (.dat (.int (z - 1000000000000000000))), none, none, none, none], [some (.lst [])]⟩ := by
      simp -implicitDefEqProofs [hp]
    have hlp : lp__law_digits_1 c ⟨[some (.dat (.int z)), some (.dat (.lst (sizes.map .int))), some (.cell 0), some (.dat (.int (z - 1000000000000000000))), none, none, none, none], [some (.lst [])]⟩ = .nx ⟨[some (.dat (.int z)), some (.dat (.lst (sizes.map .int))), some (.cell 0), some (.dat (.int rest')), y4, none, none, none], [some (.lst ((new.map D.int).map .dat))]⟩ := by
      unfold lp__law_digits_1
      rw [q_sFor]
      have hit : iItems (eVar 1 (envB ⟨[some (.dat (.int z)), some (.dat (.lst (sizes.map .int))), some (.cell 0), some (.dat (.int (z - 1000000000000000000))), none, none, none, none], [some (.lst [])]⟩)) = .ok (sizes.map .int) := by
        simp -implicitDefEqProofs
      rw [hit]
      exact a2
    rw [q_sSeq, seq_nx w3, seq_nx hlp]
    simp -implicitDefEqProofs only [q_sRet, q_rV, q_envV, List.map_cons, List.map_nil, q_eVarS, q_eVar0, Option.bind_some, q_view3, List.getElem?_cons_zero, q_viewO_lst, q_okOnly, q_oX_ok, q_seq_ret, q_endD_ret]
  · obtain ⟨new, seed', y6, y7, a1, a2⟩ := digits_loop2 (c := c) (.int z) z (sizes := sizes) sizes [] [] (z % 2147483629) none none rfl hs rfl hl (by omega) (by omega)
    refine ⟨new, a1, ?_⟩
    refine (congrArg endD (seq_skip ?_)).trans ?_
    · simp -implicitDefEqProofs [hp, hz]
    have w3 : sSet 5 (xB fun δ => (e2 dMod (eCb cInt (aCons (eVar 3 δ) (Rs.ok []))) (Rs.ok (.int 2147483629)))) ⟨[some (.dat (.int z)), some (.dat (.lst (sizes.map .int))), some (.cell 0), some (.dat (.int z)), none, none, none, none], [some (.lst [])]⟩ = .nx ⟨[some (.dat (.int z)), some (.dat (.lst (sizes.map .int))), some (.cell 0), some (.dat (.int z)), none, some (.dat (.int (z % 2147483629))), none, none], [some (.lst [])]⟩ := by
      simp -implicitDefEqProofs
    have hlp : lp__law_digits_2 c ⟨[some (.dat (.int z)), some (.dat (.lst (sizes.map .int))), some (.cell 0), some (.dat (.int z)), none, some (.dat (.int (z % 2147483629))), none, none], [some (.lst [])]⟩ = .nx ⟨[some (.dat (.int z)), some (.dat (.lst (sizes.map .int))), some (.cell 0), some (.dat (.int z)), none, some (.dat (.int seed')), y6, y7], [some (.lst ((new.map D.int).map .dat))]⟩ := by
      unfold lp__law_digits_2
      rw [q_sFor]
      have hit : (iRg rng1 (aCons (eCb cLen (aCons (eVar 1 (envB ⟨[some (.dat (.int z)), some (.dat (.lst (sizes.map .int))), some (.cell 0), some (.dat (.int z)), none, some (.dat (.int (z % 2147483629))), none, none], [some (.lst [])]⟩)) (Rs.ok []))) (Rs.ok []))) = .ok (DL.upTo 0 sizes.length) := by
        simp -implicitDefEqProofs only [q_envB, List.map_cons, List.map_nil, Option.bind_some, q_baseX_dat, q_eVarS, q_eVar0, q_eCb, q_aCons, Rs.bind_ok, q_cLen, q_len_lst, Option.map_some, ofO_some, q_iRg, List.length_map]
        rw [q_rng1, if_pos (DL.rg_small (by omega)), Int.toNat_natCast, ofO_some]
      rw [hit]
      exact a2
    have hfz : sFrz 2 ⟨[some (.dat (.int z)), some (.dat (.lst (sizes.map .int))), some (.cell 0), some (.dat (.int z)), none, some (.dat (.int seed')), y6, y7], [some (.lst ((new.map D.int).map .dat))]⟩ = .nx ⟨[some (.dat (.int z)), some (.dat (.lst (sizes.map .int))), some (.dat (.lst (new.map .int))), some (.dat (.int z)), none, some (.dat (.int seed')), y6.map (subX 0 (.lst (new.map .int))), y7.map (subX 0 (.lst (new.map .int)))], [none]⟩ := by
      rw [sFrz_lst (k := 0) (ds := new.map .int) rfl rfl]
      simp -implicitDefEqProofs [cutK]
    rw [seq_nx w3, seq_nx hlp, seq_nx hfz]
    simp -implicitDefEqProofs
end
end LK
set_option Elab.async false
set_option linter.all false
set_option maxRecDepth 100000
set_option maxHeartbeats 1000000
namespace LK
open PySem PySem.Spec PyProof.Rows L2 DL
set_option autoImplicit false
section
variable {c : Ad}
theorem seq_do {c : S → Rs Bool} {a m2 : S → Out} {s s' : S} (h : c s = .ok true) (h2 : a s = .nx s') : sSeq (sIf c a sNil) m2 s = m2 s' := seq_nx (by rw [if_yes h, h2])
/-! ### pieces of texts -/
theorem atI_some {α : Type} {xs : List α} {i : Int} (h0 : 0 ≤ i) (h1 : i < (xs.length : Int)) : ∃ d, atI xs i = some d ∧ d ∈ xs := by
  have hj : i.toNat < xs.length := by omega
  have h := atI_nat (List.getElem?_eq_getElem hj)
  have e : ((i.toNat : Nat) : Int) = i := by omega
  rw [e] at h
  exact ⟨_, h, List.getElem_mem hj⟩
theorem ixN_some {n : Nat} {i : Int} (h0 : 0 ≤ i) (h1 : i < (n : Int)) : ixN n i = some i.toNat := by
  unfold ixN
  rw [if_pos h0, if_pos h1]
/-- a digit of a row -/
theorem Dig.at {sizes row : List Int} (h : Dig sizes row) {i : Nat} {s : Int} (hs : sizes[i]? = some s) : ∃ x, atI (row.map D.int) (i : Int) = some (.int x) ∧ 0 ≤ x ∧ x < s := by
  have hi : i < sizes.length := (List.getElem?_eq_some_iff.mp hs).1
  have hi2 : i < row.length := by rw [h.1]; exact hi
  have hr : row[i]? = some row[i] := List.getElem?_eq_getElem hi2
  obtain ⟨a, b⟩ := h.2 i _ s hr hs
  exact ⟨row[i], atI_nat (by rw [List.getElem?_map, hr]; rfl), a, b⟩
theorem cut_len (z : Str) (lo hi : Option Int) : (cutS z lo hi).length ≤ z.length := by
  unfold cutS
  show ((z.cps.toList.drop _).take _).toArray.size ≤ z.cps.size
  simp
  omega
theorem sl_str {z : Str} (h : z.length ≤ sizeLine) (lo hi : Option Int) : dSl (.str z) lo hi = some (.str (cutS z lo hi)) := by
  show (if z.length ≤ sizeLine then some (D.str (cutS z lo hi)) else none) = _
  rw [if_pos h]
theorem str_at {z : Str} {i : Int} (h0 : 0 ≤ i) (h1 : i < (z.length : Int)) : ∃ x, atI z.cps.toList i = some x ∧ x ∈ z.cps.toList := atI_some h0 (by
  have : z.cps.toList.length = z.length := Array.length_toList
  rwa [this])
theorem sign_len (x : Nat) : (⟨#[x]⟩ : Str).length = 1 := rfl
theorem mul1 {d : D} {n : Int} (h0 : 0 ≤ n) (h1 : n ≤ 1000000) : dMul (.lst [d]) (.int n) = some (.lst (List.replicate n.toNat d)) := by
  show (if -(2 ^ 63) ≤ n ∧ n < 2 ^ 63 ∧ [d].length * n.toNat ≤ sizeLine then some (D.lst (List.replicate n.toNat [d]).flatten) else none) = _
  rw [if_pos ⟨by omega, by omega, by rw [sizeLine_eq, List.length_singleton]; omega⟩]
  congr 2
  induction n.toNat with
  | zero => rfl
  | succ k ih => rw [List.replicate_succ, List.replicate_succ, List.flatten_cons, ih]; rfl
theorem near_len : (" \n-.0az9 \n-.0AZ_~`{/:\x40[ \n1|&()*,;+ 12" : Str).length = 37 := by decide +kernel
theorem signs_len : (" !\"#$&'()*+,-./0123456789:;<=>?\x40ABCDEFGHIJKLMNOPQRSTUVWXYZ[\\]^_`abcdefghijklmnopqrstuvwxyz{|}~\n" : Str).length = 95 := by decide +kernel
def signsS : Str := " !\"#$&'()*+,-./0123456789:;<=>?\x40ABCDEFGHIJKLMNOPQRSTUVWXYZ[\\]^_`abcdefghijklmnopqrstuvwxyz{|}~\n"
theorem signs_is : m__law_signs c [] = .ok (.str signsS) := by
  unfold m__law_signs fnD mm__law_signs
  rfl
theorem signs_at {i : Int} (h0 : 0 ≤ i) (h1 : i < 95) : ∃ x, dIx (.str signsS) (.int i) = some (sign x) := by
  have hl : signsS.length = 95 := signs_len
  obtain ⟨x, hx, _⟩ := str_at (z := signsS) h0 (by rw [hl]; exact h1)
  refine ⟨x, ?_⟩
  rw [q_ix_str, if_pos (by rw [hl, sizeLine_eq]; omega), hx]
  rfl
theorem sign_is {d : Int} (h0 : 0 ≤ d) (h1 : d < 200) : ∃ x, m__law_sign c [.int d] = .ok (sign x) := by
  unfold m__law_sign fnD mm__law_sign
  have hd : CDivW d 2 := div_ok (by omega) (by omega)
  generalize hN : (" \n-.0az9 \n-.0AZ_~`{/:\x40[ \n1|&()*,;+ 12" : Str) = N
  have hl : N.length = 37 := by rw [← hN]; exact near_len
  have hl2 : (37 : Nat) ≤ 16777216 := by omega
  by_cases hm : d % 2 = 0
  · obtain ⟨x, hx, _⟩ := str_at (z := N) (i := d / 2 % 37) (by omega) (by rw [hl]; omega)
    refine ⟨x, ?_⟩
    simp -implicitDefEqProofs [startX, hm, hd, hl, hl2, sizeLine_eq, hx]
  · obtain ⟨x, hx⟩ := signs_at (i := d / 2 % 95) (by omega) (by omega)
    refine ⟨x, ?_⟩
    have hsg := signs_is (c := c)
    have hix : dIx (.str signsS) (.int (d / 2 % 95)) = some (sign x) := hx
    generalize signsS = G at *
    simp -implicitDefEqProofs only [startX, List.map_cons, List.map_nil, List.cons_append, List.nil_append, List.length_cons, List.length_nil, q_sSeq, q_sSet, q_sIf, q_sRet, q_xB, q_tBs, q_rB, q_envB, Option.bind_some, q_baseX_dat, q_eVar0, q_eVarS, Rs.bind_ok, q_oX_ok, q_put, List.set_cons_zero, List.set_cons_succ, q_seq_nx, q_e2, q_eCb, q_aCons, q_cInt_int, ofO_some, q_mod_int, q_div_int, if_pos hd, q_eq_int, q_toB, hsg, hix, q_sNil, q_seq_ret, q_endD_ret, Nat.reduceAdd, Nat.reduceSub, List.replicate]
    simp -implicitDefEqProofs [hm, hd, hix]
end
end LK
set_option Elab.async false
set_option linter.all false
set_option maxRecDepth 100000
set_option maxHeartbeats 1000000
namespace LK
open PySem PySem.Spec PyProof.Rows L2 DL
set_option autoImplicit false
section
variable {c : Ad}
def tot (ls : List Str) : Nat := (ls.map (·.length)).sum + ls.length
theorem tot_nl (note : Str) : tot (nl note) ≤ note.length + 1 := by
  have h := join_sum "\n" (nl note)
  rw [note_lines] at h
  have hl : ("\n" : Str).length = 1 := by decide
  rw [hl] at h
  unfold tot
  omega
theorem tot_mem {ls : List Str} {l : Str} (h : l ∈ ls) : l.length ≤ tot ls := by
  have := sum_le h
  unfold tot
  omega
theorem tot_app (a b : List Str) : tot (a ++ b) = tot a + tot b := by
  unfold tot
  rw [List.map_append, List.sum_append, List.length_append]
  omega
theorem tot_one (l : Str) : tot [l] = l.length + 1 := by
  unfold tot
  simp
theorem tot_take (ls : List Str) (k : Nat) : tot (ls.take k) + tot (ls.drop k) = tot ls := by
  rw [← tot_app, List.take_append_drop]
theorem tot_ins (ls : List Str) (k : Nat) (x : Str) : tot (ls.take k ++ [x] ++ ls.drop k) = tot ls + x.length + 1 := by
  rw [tot_app, tot_app, tot_one]
  have := tot_take ls k
  omega
theorem tot_set (x : Str) : ∀ (ls : List Str) (k : Nat), tot (ls.set k x) ≤ tot ls + x.length
  | [], k => by simp [tot]
  | l :: ls, 0 => by
    unfold tot
    simp
    omega
  | l :: ls, k + 1 => by
    have ih := tot_set x ls k
    unfold tot at ih ⊢
    simp at ih ⊢
    omega
theorem tot_erase : ∀ (ls : List Str) (k : Nat), tot (ls.eraseIdx k) ≤ tot ls
  | [], k => by simp
  | l :: ls, 0 => by
    unfold tot
    simp
    omega
  | l :: ls, k + 1 => by
    have ih := tot_erase ls k
    unfold tot at ih ⊢
    simp at ih ⊢
    omega
theorem join_tot (ls : List Str) : (Str.join "\n" ls).length ≤ tot ls := by
  have := PySem.StrLaws.join_length_le "\n" ls
  have hl : ("\n" : Str).length = 1 := by decide
  rw [hl] at this
  unfold tot
  omega
theorem join_any {ls : List Str} (h : tot ls ≤ 16777216) : mJoin (.str "\n") [.lst (ls.map .str)] = some (.str (Str.join "\n" ls)) := by
  have hl : ("\n" : Str).length = 1 := by decide
  unfold mJoin
  dsimp only
  rw [strsOf_map]
  show joinOk "\n" ls = _
  unfold joinOk
  unfold tot at h
  rw [hl, if_pos (by omega)]
  show some (D.str (Txt.join "\n" ls)) = _
  rw [show Txt.join "\n" ls = Str.join "\n" ls from PySem.StrLaws.glued_eq_join ..]
def spS (note : Str) (row : List Int) (firsts further : List Str) (a w o : Int) (x8 : Option Xv) (ls : List Str) : S :=
  ⟨[some (.dat (.str note)), some (.dat (.lst (row.map .int))), some (.dat (.lst (firsts.map .str))), some (.dat (.lst (further.map .str))), some (.cell 0), some (.dat (.int a)), some (.dat (.int w)), some (.dat (.int o)), x8], [some (.lst ((ls.map D.str).map .dat))]⟩
theorem sp_end {note : Str} {row : List Int} {firsts further : List Str} {a w o : Int} {x8 : Option Xv} {ls : List Str} (h : tot ls ≤ 16777216) :
    endD (sSeq (sFrz 4) (sRet (rB fun δ => (eMb "str" mJoin (Rs.ok (.str "\n")) (aCons (eVar 4 δ) (Rs.ok []))))) (spS note row firsts further a w o x8 ls)) = .ok (.str (Str.join "\n" ls)) := by
  have hf : sFrz 4 (spS note row firsts further a w o x8 ls) = .nx ⟨[some (.dat (.str note)), some (.dat (.lst (row.map .int))), some (.dat (.lst (firsts.map .str))), some (.dat (.lst (further.map .str))), some (.dat (.lst (ls.map .str))), some (.dat (.int a)), some (.dat (.int w)), some (.dat (.int o)), x8.map (subX 0 (.lst (ls.map .str)))], [none]⟩ := by
    unfold spS
    rw [sFrz_lst (k := 0) (ds := ls.map .str) rfl rfl]
    simp -implicitDefEqProofs [cutK]
  have hj := join_any h
  rw [seq_nx hf]
  simp -implicitDefEqProofs [hj]
theorem len_dd (ls : List Str) : ((ls.map D.str).map Xv.dat).length = ls.length := by simp
theorem at_dd {ls : List Str} {i : Int} (h0 : 0 ≤ i) (h1 : i < (ls.length : Int)) : ∃ l, atI (ls.map D.str) i = some (.str l) ∧ l ∈ ls := by
  obtain ⟨d, hd, hm⟩ := atI_some (xs := ls.map D.str) h0 (by rwa [List.length_map])
  obtain ⟨l, hl, rfl⟩ := List.mem_map.mp hm
  exact ⟨l, hd, hl⟩
section
variable {note : Str} {row : List Int} {firsts further : List Str} {a w o q : Int} {x8 : Option Xv} {ls : List Str}
theorem set_dd (ls : List Str) (k : Nat) (l : Str) : (((ls.map D.str).map Xv.dat).set k (.dat (.str l))) = ((ls.set k l).map D.str).map .dat := by
  rw [List.map_set, List.map_set]
theorem map_erase {α β : Type} (f : α → β) : ∀ (xs : List α) (k : Nat), (xs.eraseIdx k).map f = (xs.map f).eraseIdx k
  | [], _ => rfl
  | _ :: _, 0 => rfl
  | x :: xs, k + 1 => by
    show f x :: (xs.eraseIdx k).map f = f x :: (xs.map f).eraseIdx k
    rw [map_erase f xs k]
theorem sp8 (hn : ls.length ≤ 100000) (hw : 0 ≤ w ∧ w < (ls.length : Int)) (ho : 0 ≤ o ∧ o < (ls.length : Int)) : ∃ ls', sIns (xC 4) (xB fun δ => (eVar 7 δ)) (xV fun δ => (e2 dIx (eVar 4 δ) (eVar 6 δ))) (spS note row firsts further a w o x8 ls) = .nx (spS note row firsts further a w o x8 ls') ∧ tot ls' ≤ 2 * tot ls + 1 := by
  obtain ⟨l, hl, hm⟩ := at_dd hw.1 hw.2
  refine ⟨ls.take o.toNat ++ [l] ++ ls.drop o.toNat, ?_, ?_⟩
  · have hlt : ls.length < sizeLine := by rw [sizeLine_eq]; omega
    have h2 : o < 9223372036854775808 := by omega
    unfold spS sIns
    simp -implicitDefEqProofs [-List.map_map, hl, hlt, ho.1, h2]

  · rw [tot_ins]
    have := tot_mem hm
    omega
theorem sp9 (hw : 0 ≤ w ∧ w < (ls.length : Int)) (ho : 0 ≤ o ∧ o < (ls.length : Int)) : ∃ ls' y8, (sSeq (sSet 8 (xV fun δ => (e2 dIx (eVar 4 δ) (eVar 6 δ)))) (sSeq (sSetI (xC 4) (xB fun δ => (eVar 6 δ)) (xV fun δ => (e2 dIx (eVar 4 δ) (eVar 7 δ)))) (sSetI (xC 4) (xB fun δ => (eVar 7 δ)) (xB fun δ => (eVar 8 δ))))) (spS note row firsts further a w o x8 ls) = .nx (spS note row firsts further a w o y8 ls') ∧ tot ls' ≤ 3 * tot ls := by
  obtain ⟨l, hl, hm⟩ := at_dd hw.1 hw.2
  obtain ⟨k, hk, hm2⟩ := at_dd ho.1 ho.2
  refine ⟨(ls.set w.toNat k).set o.toNat l, some (.dat (.str l)), ?_, ?_⟩
  · have i1 := ixN_some hw.1 hw.2
    have i2 := ixN_some ho.1 ho.2
    unfold spS
    simp -implicitDefEqProofs [-List.map_map, hl, hk, sSetI, i1, i2, List.map_set]
  · have h1 := tot_set l (ls.set w.toNat k) o.toNat
    have h2 := tot_set k ls w.toNat
    have h3 := tot_mem hm
    have h4 := tot_mem hm2
    omega
theorem sp10 (hn : ls.length ≤ 100000) : ∃ ls', sApp (xC 4) (xB fun δ => (Rs.ok (.str ""))) (spS note row firsts further a w o x8 ls) = .nx (spS note row firsts further a w o x8 ls') ∧ tot ls' ≤ tot ls + 1 := by
  refine ⟨ls ++ [("" : Str)], ?_, ?_⟩
  · have hlt : ls.length < sizeLine := by rw [sizeLine_eq]; omega
    unfold spS
    simp -implicitDefEqProofs [-List.map_map, hlt]
  · rw [tot_app, tot_one]
    have : ("" : Str).length = 0 := rfl
    omega
theorem sp11 (hn : tot ls ≤ 100000) (hw : 0 ≤ w ∧ w < (ls.length : Int)) : ∃ ls', sSetI (xC 4) (xB fun δ => (eVar 6 δ)) (xV fun δ => (e2 dAdd (e2 dIx (eVar 4 δ) (eVar 6 δ)) (Rs.ok (.str " ")))) (spS note row firsts further a w o x8 ls) = .nx (spS note row firsts further a w o x8 ls') ∧ tot ls' ≤ 2 * tot ls + 1 := by
  obtain ⟨l, hl, hm⟩ := at_dd hw.1 hw.2
  have h3 := tot_mem hm
  have h1 : (" " : Str).length = 1 := by decide
  refine ⟨ls.set w.toNat (l ++ " "), ?_, ?_⟩
  · have i1 := ixN_some hw.1 hw.2
    have h2 : l.length + 1 ≤ 16777216 := by omega
    unfold spS
    simp -implicitDefEqProofs [-List.map_map, hl, sSetI, i1, List.map_set, sizeLine_eq, h1, h2]
  · have h2 := tot_set (l ++ " ") ls w.toNat
    rw [len_app] at h2
    omega
theorem sp12 (hn : tot ls ≤ 100000) (hw : 0 ≤ w ∧ w < (ls.length : Int)) : ∃ ls', (sSeq (sSetI (xC 4) (xB fun δ => (eVar 6 δ)) (xV fun δ => (e1 (dRepl " " "  ") (e2 dIx (eVar 4 δ) (eVar 6 δ))))) sNil) (spS note row firsts further a w o x8 ls) = .nx (spS note row firsts further a w o x8 ls') ∧ tot ls' ≤ 4 * tot ls + 2 := by
  obtain ⟨l, hl, hm⟩ := at_dd hw.1 hw.2
  have h3 := tot_mem hm
  have h1 : ("  " : Str).length = 2 := by decide
  have h5 := TK.replace_len l " " "  "
  refine ⟨ls.set w.toNat (Txt.replace l " " "  "), ?_, ?_⟩
  · have i1 := ixN_some hw.1 hw.2
    have h2 : l.length + (l.length + 1) * 2 ≤ 16777216 := by omega
    unfold spS
    simp -implicitDefEqProofs [-List.map_map, hl, sSetI, i1, List.map_set, dRepl, h1, h2]
  · have h2 := tot_set (Txt.replace l " " "  ") ls w.toNat
    rw [h1] at h5
    omega
theorem sp13 (hn : ls.length ≤ 100000) (hw : 0 ≤ w ∧ w < (ls.length : Int)) : ∃ ls', sPopI (xC 4) (xB fun δ => (eVar 6 δ)) (fun _ s => s) (spS note row firsts further a w o x8 ls) = .nx (spS note row firsts further a w o x8 ls') ∧ tot ls' ≤ tot ls := by
  refine ⟨ls.eraseIdx w.toNat, ?_, tot_erase ..⟩
  have i1 := ixN_some hw.1 hw.2
  have h1 : -9223372036854775808 ≤ w ∧ w < 9223372036854775808 := by omega
  have h2 : w.toNat < ls.length := by omega
  unfold spS sPopI popAt
  simp -implicitDefEqProofs [-List.map_map, i1, h1.1, h1.2, h2, map_erase]
theorem sp14 (hr : atI (row.map D.int) 3 = some (.int q)) (hq : 0 ≤ q) (hl0 : 1 ≤ ls.length) (hf : 1 ≤ firsts.length) (hf2 : ∀ l ∈ firsts, l.length ≤ 200) : ∃ ls', sSetI (xC 4) (xB fun δ => (Rs.ok (.int 0))) (xB fun δ => (e2 dIx (eVar 2 δ) (e2 dMod (eCb cInt (aCons (e2 dIx (eVar 1 δ) (Rs.ok (.int 3))) (Rs.ok []))) (eCb cLen (aCons (eVar 2 δ) (Rs.ok [])))))) (spS note row firsts further a w o x8 ls) = .nx (spS note row firsts further a w o x8 ls') ∧ tot ls' ≤ tot ls + 200 := by
  have hp : (0 : Int) < (firsts.length : Int) := by omega
  obtain ⟨l, hl, hm⟩ := at_dd (ls := firsts) (i := q % (firsts.length : Int)) (Int.emod_nonneg _ (by omega)) (Int.emod_lt_of_pos _ hp)
  refine ⟨ls.set 0 l, ?_, ?_⟩
  · have i1 := ixN_some (n := ls.length) (i := 0) (by omega) (by omega)
    have hp2 : 0 < firsts.length := by omega
    unfold spS
    simp -implicitDefEqProofs [-List.map_map, hr, hl, sSetI, i1, List.map_set, hp2]
  · have h2 := tot_set l ls 0
    have := hf2 l hm
    omega
theorem sp15 (hn : ls.length ≤ 100000) (ho : 0 ≤ o ∧ o < (ls.length : Int)) : ∃ ls', sIns (xC 4) (xB fun δ => (e2 dAdd (Rs.ok (.int 1)) (eVar 7 δ))) (xB fun δ => (Rs.ok (.str ""))) (spS note row firsts further a w o x8 ls) = .nx (spS note row firsts further a w o x8 ls') ∧ tot ls' ≤ tot ls + 1 := by
  refine ⟨ls.take (1 + o).toNat ++ [("" : Str)] ++ ls.drop (1 + o).toNat, ?_, ?_⟩
  · have hlt : ls.length < sizeLine := by rw [sizeLine_eq]; omega
    have h2 : 1 + o < 9223372036854775808 := by omega
    have h3 : 0 ≤ 1 + o := by omega
    unfold spS sIns
    simp -implicitDefEqProofs [-List.map_map, hlt, h2, h3]

  · rw [tot_ins]
    have : ("" : Str).length = 0 := rfl
    omega
theorem sp16 (hr : atI (row.map D.int) 3 = some (.int q)) (hq : 0 ≤ q) (hn : ls.length ≤ 100000) (hf : 1 ≤ further.length) (hf2 : ∀ l ∈ further, l.length ≤ 200) : ∃ ls', sApp (xC 4) (xB fun δ => (e2 dIx (eVar 3 δ) (e2 dMod (eCb cInt (aCons (e2 dIx (eVar 1 δ) (Rs.ok (.int 3))) (Rs.ok []))) (eCb cLen (aCons (eVar 3 δ) (Rs.ok [])))))) (spS note row firsts further a w o x8 ls) = .nx (spS note row firsts further a w o x8 ls') ∧ tot ls' ≤ tot ls + 201 := by
  have hp : (0 : Int) < (further.length : Int) := by omega
  obtain ⟨l, hl, hm⟩ := at_dd (ls := further) (i := q % (further.length : Int)) (Int.emod_nonneg _ (by omega)) (Int.emod_lt_of_pos _ hp)
  refine ⟨ls ++ [l], ?_, ?_⟩
  · have hlt : ls.length < sizeLine := by rw [sizeLine_eq]; omega
    have hp2 : 0 < further.length := by omega
    unfold spS
    simp -implicitDefEqProofs [-List.map_map, hr, hl, hp2, hlt]
  · rw [tot_app, tot_one]
    have := hf2 l hm
    omega
end
end
end LK

set_option Elab.async false
set_option linter.all false
set_option maxRecDepth 100000
set_option maxHeartbeats 4000000
namespace LK
open PySem PySem.Spec PyProof.Rows L2 DL
set_option autoImplicit false
section
variable {c : Ad}
theorem spoilt_is {note : Str} {row : List Int} {firsts further : List Str} (hn : note.length ≤ 30000) (hd : Dig [18, 3000, 3000, 200] row) (hf : 1 ≤ firsts.length) (hf2 : ∀ l ∈ firsts, l.length ≤ 200) (hg : 1 ≤ further.length) (hg2 : ∀ l ∈ further, l.length ≤ 200) :
    ∃ t : Str, m__law_spoilt c [.str note, .lst (row.map .int), .lst (firsts.map .str), .lst (further.map .str)] = .ok (.str t) ∧ t.length ≤ 4 * note.length + 300 := by
  obtain ⟨v, r0, v0, v1⟩ := hd.at (i := 0) (s := 18) rfl
  obtain ⟨p, r1, p0, p1⟩ := hd.at (i := 1) (s := 3000) rfl
  obtain ⟨p2, r2, p20, p21⟩ := hd.at (i := 2) (s := 3000) rfl
  obtain ⟨q, r3, q0, q1⟩ := hd.at (i := 3) (s := 200) rfl
  have r0 : atI (row.map D.int) 0 = some (.int v) := r0
  have r1 : atI (row.map D.int) 1 = some (.int p) := r1
  have r2 : atI (row.map D.int) 2 = some (.int p2) := r2
  have r3 : atI (row.map D.int) 3 = some (.int q) := r3
  have ht := tot_nl note
  have hl : (nl note).length ≤ tot (nl note) := by unfold tot; omega
  have hl1 : 1 ≤ (nl note).length := by
    rcases h : nl note with _ | ⟨x, xs⟩
    · exact absurd h (split_ne _ _)
    · simp
  have hsp := nl_ok (line := note) (show note.length ≤ 100000 by omega)
  have hsz : note.length ≤ sizeLine := by rw [sizeLine_eq]; omega
  have hsz2 : note.length ≤ 16777216 := by omega
  obtain ⟨x, hx⟩ := sign_is (c := c) q0 q1
  unfold m__law_spoilt fnD mm__law_spoilt
  have s0 : startX 9 [.str note, .lst (row.map .int), .lst (firsts.map .str), .lst (further.map .str)] = ⟨[some (.dat (.str note)), some (.dat (.lst (row.map .int))), some (.dat (.lst (firsts.map .str))), some (.dat (.lst (further.map .str))), none, none, none, none, none], []⟩ := rfl
  rw [if_pos (by rfl), s0]
  have w4 : sNew 4 (nB fun δ => (nMb "str" mSplit (eVar 0 δ) (aCons (Rs.ok (.str "\n")) (Rs.ok [])))) ⟨[some (.dat (.str note)), some (.dat (.lst (row.map .int))), some (.dat (.lst (firsts.map .str))), some (.dat (.lst (further.map .str))), none, none, none, none, none], []⟩ = .nx ⟨[some (.dat (.str note)), some (.dat (.lst (row.map .int))), some (.dat (.lst (firsts.map .str))), some (.dat (.lst (further.map .str))), some (.cell 0), none, none, none, none], [some (.lst (((nl note).map D.str).map .dat))]⟩ := by
    simp -implicitDefEqProofs [-List.map_map, hsp]
  generalize hls : nl note = ls at *
  have hp0 : (0 : Int) < (note.length : Int) + 1 := by omega
  have hp1 : (0 : Int) < (ls.length : Int) := by omega
  have hp1' : 0 < ls.length := by omega
  have w5 : sSet 5 (xB fun δ => (e2 dMod (eCb cInt (aCons (e2 dIx (eVar 1 δ) (Rs.ok (.int 1))) (Rs.ok []))) (e2 dAdd (eCb cLen (aCons (eVar 0 δ) (Rs.ok []))) (Rs.ok (.int 1))))) ⟨[some (.dat (.str note)), some (.dat (.lst (row.map .int))), some (.dat (.lst (firsts.map .str))), some (.dat (.lst (further.map .str))), some (.cell 0), none, none, none, none], [some (.lst ((ls.map D.str).map .dat))]⟩ = .nx ⟨[some (.dat (.str note)), some (.dat (.lst (row.map .int))), some (.dat (.lst (firsts.map .str))), some (.dat (.lst (further.map .str))), some (.cell 0), some (.dat (.int (p % ((note.length : Int) + 1)))), none, none, none], [some (.lst ((ls.map D.str).map .dat))]⟩ := by
    simp -implicitDefEqProofs [-List.map_map, r1, hsz, hp0]
  have w6 : sSet 6 (xV fun δ => (e2 dMod (eCb cInt (aCons (e2 dIx (eVar 1 δ) (Rs.ok (.int 1))) (Rs.ok []))) (eCb cLen (aCons (eVar 4 δ) (Rs.ok []))))) ⟨[some (.dat (.str note)), some (.dat (.lst (row.map .int))), some (.dat (.lst (firsts.map .str))), some (.dat (.lst (further.map .str))), some (.cell 0), some (.dat (.int (p % ((note.length : Int) + 1)))), none, none, none], [some (.lst ((ls.map D.str).map .dat))]⟩ = .nx ⟨[some (.dat (.str note)), some (.dat (.lst (row.map .int))), some (.dat (.lst (firsts.map .str))), some (.dat (.lst (further.map .str))), some (.cell 0), some (.dat (.int (p % ((note.length : Int) + 1)))), some (.dat (.int (p % (ls.length : Int)))), none, none], [some (.lst ((ls.map D.str).map .dat))]⟩ := by
    simp -implicitDefEqProofs [-List.map_map, r1, hp1']
  have w7 : sSet 7 (xV fun δ => (e2 dMod (eCb cInt (aCons (e2 dIx (eVar 1 δ) (Rs.ok (.int 2))) (Rs.ok []))) (eCb cLen (aCons (eVar 4 δ) (Rs.ok []))))) ⟨[some (.dat (.str note)), some (.dat (.lst (row.map .int))), some (.dat (.lst (firsts.map .str))), some (.dat (.lst (further.map .str))), some (.cell 0), some (.dat (.int (p % ((note.length : Int) + 1)))), some (.dat (.int (p % (ls.length : Int)))), none, none], [some (.lst ((ls.map D.str).map .dat))]⟩ = .nx (spS note row firsts further (p % ((note.length : Int) + 1)) (p % (ls.length : Int)) (p2 % (ls.length : Int)) none ls) := by
    unfold spS
    simp -implicitDefEqProofs [-List.map_map, r2, hp1']
  rw [seq_nx w4, seq_nx w5, seq_nx w6, seq_nx w7]
  have A0 := Int.emod_nonneg p (show ((note.length : Int) + 1) ≠ 0 by omega)
  have hw : 0 ≤ p % (ls.length : Int) ∧ p % (ls.length : Int) < (ls.length : Int) := ⟨Int.emod_nonneg _ (by omega), Int.emod_lt_of_pos _ hp1⟩
  have ho : 0 ≤ p2 % (ls.length : Int) ∧ p2 % (ls.length : Int) < (ls.length : Int) := ⟨Int.emod_nonneg _ (by omega), Int.emod_lt_of_pos _ hp1⟩
  generalize p % ((note.length : Int) + 1) = A at *
  generalize p % (ls.length : Int) = wh at *
  generalize p2 % (ls.length : Int) = ot at *
  have hs1 : ∀ lo hi : Option Int, dSl (.str note) lo hi = some (.str (cutS note lo hi)) := fun lo hi => sl_str hsz lo hi
  have hx1 : (⟨#[x]⟩ : Str).length = 1 := rfl
  have cl : ∀ lo hi, (cutS note lo hi).length ≤ note.length := fun lo hi => cut_len note lo hi
  have tst : ∀ (f : D → D → Option D) (k : Int) (b : Bool) (x8 : Option Xv) (ls : List Str), f (.int v) (.int k) = some (.bl b) → (tBs fun δ => ((e2 f (e2 dIx (eVar 1 δ) (Rs.ok (.int 0))) (Rs.ok (.int k))).bind toB)) (spS note row firsts further A wh ot x8 ls) = .ok b := fun f k b x8 ls h => by
    unfold spS
    simp -implicitDefEqProofs [-List.map_map, r0, h]
  by_cases h3 : v < 3
  · refine ⟨cutS note none (some A) ++ (⟨#[x]⟩ : Str) ++ cutS note (some A) none, ?_, ?_⟩
    · have k1 : (cutS note none (some A)).length + 1 ≤ 16777216 := by have := cl none (some A); omega
      have k2 : (cutS note none (some A) ++ (⟨#[x]⟩ : Str)).length + (cutS note (some A) none).length ≤ 16777216 := by
        have := cl none (some A)
        have := cl (some A) none
        rw [len_app, hx1]
        omega
      refine (congrArg endD (seq_ret (d := .str (cutS note none (some A) ++ (⟨#[x]⟩ : Str) ++ cutS note (some A) none)) ?_)).trans rfl
      rw [if_yes (tst dLt 3 true none ls (by simp [h3]))]
      unfold spS
      simp -implicitDefEqProofs [-List.map_map, hs1, r3, hx, sign, hx1, k1, k2, sizeLine_eq]
    · have := cl none (some A)
      have := cl (some A) none
      rw [len_app, len_app, hx1]
      omega
  rw [seq_skip (tst dLt 3 false none ls (by simp [h3]))]
  by_cases h5 : v < 5
  · refine ⟨cutS note none (some A) ++ cutS note (some (A + 1)) none, ?_, ?_⟩
    · have k1 : (cutS note none (some A)).length + (cutS note (some (A + 1)) none).length ≤ 16777216 := by
        have := cl none (some A)
        have := cl (some (A + 1)) none
        omega
      refine (congrArg endD (seq_ret (d := .str (cutS note none (some A) ++ cutS note (some (A + 1)) none)) ?_)).trans rfl
      rw [if_yes (tst dLt 5 true none ls (by simp [h5]))]
      unfold spS
      simp -implicitDefEqProofs [-List.map_map, hs1, k1, sizeLine_eq]
    · have := cl none (some A)
      have := cl (some (A + 1)) none
      rw [len_app]
      omega
  rw [seq_skip (tst dLt 5 false none ls (by simp [h5]))]
  by_cases h8 : v < 8
  · refine ⟨cutS note none (some A) ++ (⟨#[x]⟩ : Str) ++ cutS note (some (A + 1)) none, ?_, ?_⟩
    · have k1 : (cutS note none (some A)).length + 1 ≤ 16777216 := by have := cl none (some A); omega
      have k2 : (cutS note none (some A) ++ (⟨#[x]⟩ : Str)).length + (cutS note (some (A + 1)) none).length ≤ 16777216 := by
        have := cl none (some A)
        have := cl (some (A + 1)) none
        rw [len_app, hx1]
        omega
      refine (congrArg endD (seq_ret (d := .str (cutS note none (some A) ++ (⟨#[x]⟩ : Str) ++ cutS note (some (A + 1)) none)) ?_)).trans rfl
      rw [if_yes (tst dLt 8 true none ls (by simp [h8]))]
      unfold spS
      simp -implicitDefEqProofs [-List.map_map, hs1, r3, hx, sign, hx1, k1, k2, sizeLine_eq]
    · have := cl none (some A)
      have := cl (some (A + 1)) none
      rw [len_app, len_app, hx1]
      omega
  rw [seq_skip (tst dLt 8 false none ls (by simp [h8]))]
  have hend : ∀ {ls' : List Str} {y8 : Option Xv}, tot ls' ≤ 4 * note.length + 300 → ∃ t : Str, endD (sSeq (sFrz 4) (sRet (rB fun δ => (eMb "str" mJoin (Rs.ok (.str "\n")) (aCons (eVar 4 δ) (Rs.ok []))))) (spS note row firsts further A wh ot y8 ls')) = .ok (.str t) ∧ t.length ≤ 4 * note.length + 300 := fun {ls' y8} h =>
    ⟨_, sp_end (by omega), Nat.le_trans (join_tot ls') h⟩
  have hcase : v = 8 ∨ v = 9 ∨ v = 10 ∨ v = 11 ∨ v = 12 ∨ v = 13 ∨ v = 14 ∨ v = 15 ∨ v = 16 ∨ v = 17 := by omega
  have hlen : ls.length ≤ 100000 := by omega
  have htot : tot ls ≤ 100000 := by omega
  rcases hcase with rfl | rfl | rfl | rfl | rfl | rfl | rfl | rfl | rfl | rfl
  · obtain ⟨ls', hdo, htt⟩ := sp8 (note := note) (row := row) (firsts := firsts) (further := further) (a := A) (w := wh) (o := ot) (x8 := none) hlen hw ho
    rw [seq_do (tst dEq 8 true none ls rfl) hdo]
    rw [seq_skip (tst dEq 9 false none ls' (by simp))]
    rw [seq_skip (tst dEq 10 false none ls' (by simp))]
    rw [seq_skip (tst dEq 11 false none ls' (by simp))]
    rw [seq_skip (tst dEq 12 false none ls' (by simp))]
    rw [seq_skip (tst dEq 13 false none ls' (by simp))]
    rw [seq_skip (tst dEq 14 false none ls' (by simp))]
    rw [seq_skip (tst dEq 15 false none ls' (by simp))]
    rw [seq_skip (tst dGt 15 false none ls' (by simp))]
    exact hend (by omega)
  · obtain ⟨ls', y8, hdo, htt⟩ := sp9 (note := note) (row := row) (firsts := firsts) (further := further) (a := A) (w := wh) (o := ot) (x8 := none) hw ho
    rw [seq_skip (tst dEq 8 false none ls (by simp))]
    rw [seq_do (tst dEq 9 true none ls rfl) hdo]
    rw [seq_skip (tst dEq 10 false y8 ls' (by simp))]
    rw [seq_skip (tst dEq 11 false y8 ls' (by simp))]
    rw [seq_skip (tst dEq 12 false y8 ls' (by simp))]
    rw [seq_skip (tst dEq 13 false y8 ls' (by simp))]
    rw [seq_skip (tst dEq 14 false y8 ls' (by simp))]
    rw [seq_skip (tst dEq 15 false y8 ls' (by simp))]
    rw [seq_skip (tst dGt 15 false y8 ls' (by simp))]
    exact hend (by omega)
  · obtain ⟨ls', hdo, htt⟩ := sp10 (note := note) (row := row) (firsts := firsts) (further := further) (a := A) (w := wh) (o := ot) (x8 := none) hlen
    rw [seq_skip (tst dEq 8 false none ls (by simp))]
    rw [seq_skip (tst dEq 9 false none ls (by simp))]
    rw [seq_do (tst dEq 10 true none ls rfl) hdo]
    rw [seq_skip (tst dEq 11 false none ls' (by simp))]
    rw [seq_skip (tst dEq 12 false none ls' (by simp))]
    rw [seq_skip (tst dEq 13 false none ls' (by simp))]
    rw [seq_skip (tst dEq 14 false none ls' (by simp))]
    rw [seq_skip (tst dEq 15 false none ls' (by simp))]
    rw [seq_skip (tst dGt 15 false none ls' (by simp))]
    exact hend (by omega)
  · obtain ⟨ls', hdo, htt⟩ := sp11 (note := note) (row := row) (firsts := firsts) (further := further) (a := A) (w := wh) (o := ot) (x8 := none) htot hw
    rw [seq_skip (tst dEq 8 false none ls (by simp))]
    rw [seq_skip (tst dEq 9 false none ls (by simp))]
    rw [seq_skip (tst dEq 10 false none ls (by simp))]
    rw [seq_do (tst dEq 11 true none ls rfl) hdo]
    rw [seq_skip (tst dEq 12 false none ls' (by simp))]
    rw [seq_skip (tst dEq 13 false none ls' (by simp))]
    rw [seq_skip (tst dEq 14 false none ls' (by simp))]
    rw [seq_skip (tst dEq 15 false none ls' (by simp))]
    rw [seq_skip (tst dGt 15 false none ls' (by simp))]
    exact hend (by omega)
  · obtain ⟨ls', hdo, htt⟩ := sp12 (note := note) (row := row) (firsts := firsts) (further := further) (a := A) (w := wh) (o := ot) (x8 := none) htot hw
    rw [seq_skip (tst dEq 8 false none ls (by simp))]
    rw [seq_skip (tst dEq 9 false none ls (by simp))]
    rw [seq_skip (tst dEq 10 false none ls (by simp))]
    rw [seq_skip (tst dEq 11 false none ls (by simp))]
    rw [seq_do (tst dEq 12 true none ls rfl) hdo]
    rw [seq_skip (tst dEq 13 false none ls' (by simp))]
    rw [seq_skip (tst dEq 14 false none ls' (by simp))]
    rw [seq_skip (tst dEq 15 false none ls' (by simp))]
    rw [seq_skip (tst dGt 15 false none ls' (by simp))]
    exact hend (by omega)
  · obtain ⟨ls', hdo, htt⟩ := sp13 (note := note) (row := row) (firsts := firsts) (further := further) (a := A) (w := wh) (o := ot) (x8 := none) hlen hw
    rw [seq_skip (tst dEq 8 false none ls (by simp))]
    rw [seq_skip (tst dEq 9 false none ls (by simp))]
    rw [seq_skip (tst dEq 10 false none ls (by simp))]
    rw [seq_skip (tst dEq 11 false none ls (by simp))]
    rw [seq_skip (tst dEq 12 false none ls (by simp))]
    rw [seq_do (tst dEq 13 true none ls rfl) hdo]
    rw [seq_skip (tst dEq 14 false none ls' (by simp))]
    rw [seq_skip (tst dEq 15 false none ls' (by simp))]
    rw [seq_skip (tst dGt 15 false none ls' (by simp))]
    exact hend (by omega)
  · obtain ⟨ls', hdo, htt⟩ := sp14 (note := note) (row := row) (firsts := firsts) (further := further) (a := A) (w := wh) (o := ot) (x8 := none) r3 q0 hl1 hf hf2
    rw [seq_skip (tst dEq 8 false none ls (by simp))]
    rw [seq_skip (tst dEq 9 false none ls (by simp))]
    rw [seq_skip (tst dEq 10 false none ls (by simp))]
    rw [seq_skip (tst dEq 11 false none ls (by simp))]
    rw [seq_skip (tst dEq 12 false none ls (by simp))]
    rw [seq_skip (tst dEq 13 false none ls (by simp))]
    rw [seq_do (tst dEq 14 true none ls rfl) hdo]
    rw [seq_skip (tst dEq 15 false none ls' (by simp))]
    rw [seq_skip (tst dGt 15 false none ls' (by simp))]
    exact hend (by omega)
  · obtain ⟨ls', hdo, htt⟩ := sp15 (note := note) (row := row) (firsts := firsts) (further := further) (a := A) (w := wh) (o := ot) (x8 := none) hlen ho
    rw [seq_skip (tst dEq 8 false none ls (by simp))]
    rw [seq_skip (tst dEq 9 false none ls (by simp))]
    rw [seq_skip (tst dEq 10 false none ls (by simp))]
    rw [seq_skip (tst dEq 11 false none ls (by simp))]
    rw [seq_skip (tst dEq 12 false none ls (by simp))]
    rw [seq_skip (tst dEq 13 false none ls (by simp))]
    rw [seq_skip (tst dEq 14 false none ls (by simp))]
    rw [seq_do (tst dEq 15 true none ls rfl) hdo]
    rw [seq_skip (tst dGt 15 false none ls' (by simp))]
    exact hend (by omega)
  · obtain ⟨ls', hdo, htt⟩ := sp16 (note := note) (row := row) (firsts := firsts) (further := further) (a := A) (w := wh) (o := ot) (x8 := none) r3 q0 hlen hg hg2
    rw [seq_skip (tst dEq 8 false none ls (by simp))]
    rw [seq_skip (tst dEq 9 false none ls (by simp))]
    rw [seq_skip (tst dEq 10 false none ls (by simp))]
    rw [seq_skip (tst dEq 11 false none ls (by simp))]
    rw [seq_skip (tst dEq 12 false none ls (by simp))]
    rw [seq_skip (tst dEq 13 false none ls (by simp))]
    rw [seq_skip (tst dEq 14 false none ls (by simp))]
    rw [seq_skip (tst dEq 15 false none ls (by simp))]
    rw [seq_do (tst dGt 15 true none ls (by simp)) hdo]
    exact hend (by omega)
  · obtain ⟨ls', hdo, htt⟩ := sp16 (note := note) (row := row) (firsts := firsts) (further := further) (a := A) (w := wh) (o := ot) (x8 := none) r3 q0 hlen hg hg2
    rw [seq_skip (tst dEq 8 false none ls (by simp))]
    rw [seq_skip (tst dEq 9 false none ls (by simp))]
    rw [seq_skip (tst dEq 10 false none ls (by simp))]
    rw [seq_skip (tst dEq 11 false none ls (by simp))]
    rw [seq_skip (tst dEq 12 false none ls (by simp))]
    rw [seq_skip (tst dEq 13 false none ls (by simp))]
    rw [seq_skip (tst dEq 14 false none ls (by simp))]
    rw [seq_skip (tst dEq 15 false none ls (by simp))]
    rw [seq_do (tst dGt 15 true none ls (by simp)) hdo]
    exact hend (by omega)

end
end LK
set_option Elab.async false
set_option linter.all false
set_option maxRecDepth 100000
set_option maxHeartbeats 1000000
namespace LK
open PySem PySem.Spec PyProof.Rows L2 DL
set_option autoImplicit false
section
variable {c : Ad}
/-! ### free texts -/
theorem dig_sizes {ss : List Int} (h : ∀ s ∈ ss, 0 < s ∧ s < 1000000) : ∀ s ∈ ss, 0 < s ∧ s < 2 ^ 60 := fun s hs => ⟨(h s hs).1, by have := (h s hs).2; omega⟩
theorem sizes_rep {k : Nat} {a : Int} (ha : 0 < a ∧ a < 1000000) : ∀ s ∈ List.replicate k a, 0 < s ∧ s < 1000000 := fun s hs => by
  rw [(List.mem_replicate.mp hs).2]
  exact ha
theorem fold20 : ∀ (n b : Nat), (List.range n).foldl (fun b _ => b + 20) b = b + 20 * n
  | 0, b => rfl
  | n + 1, b => by
    rw [List.range_succ, List.foldl_append, fold20 n b]
    simp
    omega
theorem free_sizes : (e2 dAdd (((nLst (aCons (Rs.ok (.int 98)) (Rs.ok [])))).bind noD) (e2 dMul (((nLst (aCons (Rs.ok (.int 190)) (Rs.ok [])))).bind noD) (Rs.ok (.int 48)))) = .ok (.lst ((98 :: List.replicate 48 190).map D.int)) := by
  have h := mul1 (d := .int 190) (n := 48) (by omega) (by omega)
  have h2 : (48 : Int).toNat = 48 := rfl
  rw [h2] at h
  simp -implicitDefEqProofs [h, sizeLine_eq]
theorem free_is (z : Int) {words : List Str} (hw : 1 ≤ words.length) (hw2 : ∀ l ∈ words, l.length ≤ 20) : ∃ t : Str, m__law_free_text c [.int z, .lst (words.map .str)] = .ok (.str t) ∧ t.length ≤ 1000 := by
  obtain ⟨row, hd, hdig⟩ := digits_is (c := c) z (sizes := 98 :: List.replicate 48 190) (dig_sizes (fun s hs => by
    rcases List.mem_cons.mp hs with rfl | hs
    · omega
    · exact sizes_rep (by omega) s hs)) (by simp)
  obtain ⟨v, r0, v0, v1⟩ := hd.at (i := 0) (s := 98) rfl
  have r0 : atI (row.map D.int) 0 = some (.int v) := r0
  obtain ⟨many, hm⟩ : ∃ many : Int, many = if 48 < v then (v - 49) % 7 else v := ⟨_, rfl⟩
  have hmb : 0 ≤ many ∧ many ≤ 48 := by
    rw [hm]
    split <;> omega
  have hf := free_sizes
  generalize hz : (98 :: List.replicate 48 190 : List Int) = sz at hf hdig
  unfold m__law_free_text fnD mm__law_free_text
  have s0 : startX 6 [.int z, .lst (words.map .str)] = ⟨[some (.dat (.int z)), some (.dat (.lst (words.map .str))), none, none, none, none], []⟩ := rfl
  rw [if_pos (by rfl), s0]
  have w2 : sSet 2 (xB fun δ => ((aCons (eVar 0 δ) (aCons (e2 dAdd (((nLst (aCons (Rs.ok (.int 98)) (Rs.ok [])))).bind noD) (e2 dMul (((nLst (aCons (Rs.ok (.int 190)) (Rs.ok [])))).bind noD) (Rs.ok (.int 48)))) (Rs.ok []))).bind (m__law_digits c))) ⟨[some (.dat (.int z)), some (.dat (.lst (words.map .str))), none, none, none, none], []⟩ = .nx ⟨[some (.dat (.int z)), some (.dat (.lst (words.map .str))), some (.dat (.lst (row.map .int))), none, none, none], []⟩ := by
    rw [hf]
    simp -implicitDefEqProofs only [q_sSet, q_xB, q_envB, List.map_cons, List.map_nil, Option.bind_some, q_baseX_dat, q_aCons, q_eVar0, Rs.bind_ok, hdig, q_oX_ok, q_put, List.set_cons_succ, List.set_cons_zero]
  rw [seq_nx w2]
  have w3 : sSet 3 (xB fun δ => (eCb cInt (aCons (e2 dIx (eVar 2 δ) (Rs.ok (.int 0))) (Rs.ok [])))) ⟨[some (.dat (.int z)), some (.dat (.lst (words.map .str))), some (.dat (.lst (row.map .int))), none, none, none], []⟩ = .nx ⟨[some (.dat (.int z)), some (.dat (.lst (words.map .str))), some (.dat (.lst (row.map .int))), some (.dat (.int v)), none, none], []⟩ := by
    simp -implicitDefEqProofs [r0]
  rw [seq_nx w3]
  have w4 : (sIf (tBs fun δ => ((e2 dGt (eVar 3 δ) (Rs.ok (.int 48))).bind toB)) (sSet 3 (xB fun δ => (e2 dMod (eCb cInt (aCons (e2 dSub (eVar 3 δ) (Rs.ok (.int 49))) (Rs.ok []))) (Rs.ok (.int 7))))) sNil) ⟨[some (.dat (.int z)), some (.dat (.lst (words.map .str))), some (.dat (.lst (row.map .int))), some (.dat (.int v)), none, none], []⟩ = .nx ⟨[some (.dat (.int z)), some (.dat (.lst (words.map .str))), some (.dat (.lst (row.map .int))), some (.dat (.int many)), none, none], []⟩ := by
    rw [hm]
    by_cases h : 48 < v <;> simp -implicitDefEqProofs [h]
  rw [seq_nx w4]
  have w5 : sSet 4 (xB fun δ => (Rs.ok (.str ""))) ⟨[some (.dat (.int z)), some (.dat (.lst (words.map .str))), some (.dat (.lst (row.map .int))), some (.dat (.int many)), none, none], []⟩ = .nx ⟨[some (.dat (.int z)), some (.dat (.lst (words.map .str))), some (.dat (.lst (row.map .int))), some (.dat (.int many)), some (.dat (.str "")), none], []⟩ := by
    simp -implicitDefEqProofs
  rw [seq_nx w5]
  have hp1 : (0 : Int) < (words.length : Int) := by omega
  have hp2 : 0 < words.length := by omega
  obtain ⟨s', e, t, x, ht, rfl⟩ := forL_range (f := gN 5) (body := lb__law_free_text_1 c) (fun b s => ∃ (t : Str) (x : Option Xv), t.length ≤ 20 * b ∧ s = ⟨[some (.dat (.int z)), some (.dat (.lst (words.map .str))), some (.dat (.lst (row.map .int))), some (.dat (.int many)), some (.dat (.str t)), x], []⟩) many.toNat ⟨[some (.dat (.int z)), some (.dat (.lst (words.map .str))), some (.dat (.lst (row.map .int))), some (.dat (.int many)), some (.dat (.str "")), none], []⟩ (fun i s hx hs => by
    obtain ⟨t, x, ht, rfl⟩ := hs
    have hi2 : i < 48 := by omega
    obtain ⟨u, ru, u0, u1⟩ := hd.at (i := i + 1) (s := 190) (by
      rw [List.getElem?_cons_succ, List.getElem?_replicate]
      simp [hi2])
    have ei : (1 : Int) + (i : Int) = ((i + 1 : Nat) : Int) := by omega
    have hsg := signs_is (c := c)
    by_cases h95 : u < 95
    · obtain ⟨y, hy⟩ := signs_at u0 h95
      have hl1 : t.length + 1 ≤ 16777216 := by omega
      refine ⟨_, ⟨[some (.dat (.int z)), some (.dat (.lst (words.map .str))), some (.dat (.lst (row.map .int))), some (.dat (.int many)), some (.dat (.str (t ++ (⟨#[y]⟩ : Str)))), some (.dat (.int (i : Nat)))], []⟩, rfl, ?_, _, _, ?_, rfl⟩
      · unfold lb__law_free_text_1
        generalize signsS = G at *
        simp -implicitDefEqProofs only [q_put, List.set_cons_succ, List.set_cons_zero, q_sIf, q_tBs, q_envB, List.map_cons, List.map_nil, Option.bind_some, q_baseX_dat, q_e2, q_eVar0, q_eVarS, Rs.bind_ok, q_add_int, ofO_some, ei, q_ix_lst, ru, q_lt, q_toB, q_oX_ok, h95, decide_true, if_true, q_sSet, q_xB, hsg, hy, sign, q_add_str, sign_len, sizeLine_eq, if_pos hl1, q_nxOf_nx]
      · rw [len_app, sign_len]
        omega
    · obtain ⟨l, hl, hm⟩ := at_dd (ls := words) (i := u % (words.length : Int)) (Int.emod_nonneg _ (by omega)) (Int.emod_lt_of_pos _ hp1)
      have hll := hw2 l hm
      have hl1 : t.length + l.length ≤ 16777216 := by omega
      refine ⟨_, ⟨[some (.dat (.int z)), some (.dat (.lst (words.map .str))), some (.dat (.lst (row.map .int))), some (.dat (.int many)), some (.dat (.str (t ++ l))), some (.dat (.int (i : Nat)))], []⟩, rfl, ?_, _, _, ?_, rfl⟩
      · unfold lb__law_free_text_1
        simp -implicitDefEqProofs only [q_put, List.set_cons_succ, List.set_cons_zero, q_sIf, q_tBs, q_envB, List.map_cons, List.map_nil, Option.bind_some, q_baseX_dat, q_e2, q_eVar0, q_eVarS, Rs.bind_ok, q_add_int, ofO_some, ei, q_ix_lst, ru, q_lt, q_toB, q_oX_ok, h95, decide_false, Bool.false_eq_true, if_false, q_sSet, q_xB, q_eCb, q_aCons, q_cInt_int, q_cLen, q_len_lst, List.length_map, Option.map_some, q_mod_int, if_pos hp1, hl, q_add_str, sizeLine_eq, if_pos hl1, q_nxOf_nx]
      · rw [len_app]
        omega) ⟨"", none, Nat.zero_le _, rfl⟩
  have hlp : lp__law_free_text_1 c ⟨[some (.dat (.int z)), some (.dat (.lst (words.map .str))), some (.dat (.lst (row.map .int))), some (.dat (.int many)), some (.dat (.str "")), none], []⟩ = .nx ⟨[some (.dat (.int z)), some (.dat (.lst (words.map .str))), some (.dat (.lst (row.map .int))), some (.dat (.int many)), some (.dat (.str t)), x], []⟩ := by
    unfold lp__law_free_text_1
    rw [q_sFor]
    have hit : (iRg rng1 (aCons (eVar 3 (envB ⟨[some (.dat (.int z)), some (.dat (.lst (words.map .str))), some (.dat (.lst (row.map .int))), some (.dat (.int many)), some (.dat (.str "")), none], []⟩)) (Rs.ok []))) = .ok (DL.upTo 0 many.toNat) := by
      simp -implicitDefEqProofs only [q_envB, List.map_cons, List.map_nil, Option.bind_some, q_baseX_dat, q_eVarS, q_eVar0, q_aCons, Rs.bind_ok, ofO_some, q_iRg]
      have : rgOk many = true := by
        have h := DL.rg_small (n := many.toNat) (by omega)
        have e : ((many.toNat : Nat) : Int) = many := by omega
        rwa [e] at h
      rw [q_rng1, if_pos this, ofO_some]
    rw [hit]
    exact e
  refine ⟨t, ?_, ?_⟩
  · rw [seq_nx hlp]
    simp -implicitDefEqProofs
  · omega
end
end LK
set_option Elab.async false
set_option linter.all false
set_option maxRecDepth 100000
set_option maxHeartbeats 1000000
namespace LK
open PySem PySem.Spec PyProof.Rows L2 DL
set_option autoImplicit false
section
variable {c : Ad}
/-! ### signs put together -/
theorem lc_ex {P : Nat → Prop} {i : Nat} {e : Dv → Rs D} {δ : Dv} : ∀ (n : Nat) (lo : Nat), (∀ k : Nat, lo ≤ k → k < lo + n → ∃ x, P x ∧ e (δ.set i (some (.int (k : Nat)))) = .ok (sign x)) → ∃ xs : List Nat, lcL (cN i) cTrue e δ (DL.upTo (lo : Nat) n) = .ok (xs.map sign) ∧ xs.length = n ∧ ∀ x ∈ xs, P x
  | 0, lo, _ => ⟨[], rfl, rfl, fun x h => by cases h⟩
  | n + 1, lo, h => by
    obtain ⟨x, hx, ex⟩ := h lo (Nat.le_refl _) (by omega)
    obtain ⟨xs, h1, h2, h3⟩ := lc_ex n (lo + 1) fun k a b => h k (by omega) (by omega)
    refine ⟨x :: xs, ?_, by rw [List.length_cons, h2], fun y hy => ?_⟩
    · rw [upTo_cons]
      unfold lcL
      have e3 : ((lo : Nat) : Int) + 1 = ((lo + 1 : Nat) : Int) := by omega
      rw [e3]
      simp only [cN, cTrue, Rs.only_ok, if_true, ex, h1, List.map_cons]
    · rcases List.mem_cons.mp hy with rfl | hy
      · exact hx
      · exact h3 y hy
def mkS (xs : List Nat) : Str := ⟨xs.toArray⟩
theorem mkS_list (xs : List Nat) : (mkS xs).cps.toList = xs := rfl
theorem mkS_len (xs : List Nat) : (mkS xs).length = xs.length := rfl
theorem mkS_of (s : Str) : mkS s.cps.toList = s := str_ext rfl
theorem join_signs : ∀ xs : List Nat, Str.join "" (xs.map fun x => (⟨#[x]⟩ : Str)) = mkS xs
  | [] => rfl
  | [x] => rfl
  | x :: y :: r => by
    have e : Str.join "" ((x :: y :: r).map fun x => (⟨#[x]⟩ : Str)) = (⟨#[x]⟩ : Str) ++ "" ++ Str.join "" ((y :: r).map fun x => (⟨#[x]⟩ : Str)) := rfl
    rw [e, join_signs (y :: r), app_nil]
    apply str_ext
    rw [app_list]
    rfl
theorem join_mk {xs : List Nat} (h : xs.length ≤ 1000000) : mJoin (.str "") [.lst (xs.map sign)] = some (.str (mkS xs)) := by
  have e : xs.map sign = (xs.map fun x => (⟨#[x]⟩ : Str)).map .str := by rw [List.map_map]; rfl
  have hs : ((xs.map fun x => (⟨#[x]⟩ : Str)).map (·.length)).sum = xs.length := by
    rw [List.map_map]
    induction xs with
    | nil => rfl
    | cons x xs ih =>
      rw [List.map_cons, List.sum_cons, ih (by rw [List.length_cons] at h; omega) (by rw [List.map_map]; rfl), List.length_cons]
      show (⟨#[x]⟩ : Str).length + xs.length = _
      rw [sign_len]
      omega
  have hl : ("" : Str).length = 0 := rfl
  unfold mJoin
  dsimp only
  rw [e, strsOf_map]
  show joinOk "" (xs.map fun x => (⟨#[x]⟩ : Str)) = _
  unfold joinOk
  rw [hl, hs, if_pos (by omega)]
  show some (D.str (Txt.join "" (xs.map fun x => (⟨#[x]⟩ : Str)))) = _
  rw [show Txt.join "" (xs.map fun x => (⟨#[x]⟩ : Str)) = Str.join "" (xs.map fun x => (⟨#[x]⟩ : Str)) from PySem.StrLaws.glued_eq_join .., join_signs]
/-! ### layers drawn -/
def alls : Str := ".abcdefghijklmnopqrstuvwxyz" ++ Txt.mul "-" 27
theorem mul27 : MulOk "-" 27 := mulOk_nat 27 (by omega)
theorem alls_len : alls.length = 54 := by decide +kernel
theorem len27 : (".abcdefghijklmnopqrstuvwxyz" : Str).length = 27 := by decide +kernel
theorem lenm27 : (Txt.mul "-" 27).length = 27 := by decide +kernel
theorem alls_in : ∀ x ∈ alls.cps.toList, inS x signs = true := by decide +kernel
theorem marks_in : ∀ x ∈ (".abcdefghijklmnopqrstuvwxyz" : Str).cps.toList, inS x signs = true ∧ x ≠ 45 := by decide +kernel
theorem alls_is : e2 dAdd (Rs.ok (.str ".abcdefghijklmnopqrstuvwxyz")) (e2 dMul (Rs.ok (.str "-")) (Rs.ok (.int 27))) = .ok (.str alls) := by
  have h1 : (27 : Nat) + 27 ≤ 16777216 := by omega
  have h := mul27
  have h2 := len27
  have h3 := lenm27
  rw [q_e2, Rs.bind_ok, q_e2, Rs.bind_ok, Rs.bind_ok, q_mul_str, if_pos h, ofO_some, Rs.bind_ok, q_add_str, h2, h3, if_pos (by rw [sizeLine_eq]; omega), ofO_some]
  rfl
/-- a drawn sign of a layer -/
theorem layer_sign {row : List Int} {sizes : List Int} (hd : Dig sizes row) {k : Nat} (hk : k < sizes.length) : ∃ x, inS x signs = true ∧ ∃ v, atI (row.map D.int) (k : Int) = some (.int v) ∧ atI alls.cps.toList (v % 54) = some x := by
  obtain ⟨v, hv, v0, v1⟩ := hd.at (i := k) (s := sizes[k]) (List.getElem?_eq_getElem hk)
  obtain ⟨x, hx, hm⟩ := str_at (z := alls) (i := v % 54) (by omega) (by rw [alls_len]; omega)
  exact ⟨x, alls_in x hm, v, hv, hx⟩
theorem all_layer {n : Nat} {xs : List Nat} (hl : xs.length = n) (h : ∀ x ∈ xs, inS x signs = true) : layerOf (n : Int) (mkS xs) = true := by
  unfold layerOf
  rw [mkS_len, mkS_list, hl]
  simp only [decide_true, Bool.true_and, List.all_eq_true]
  exact h
theorem layer_is {n : Nat} {row sizes : List Int} (hd : Dig sizes row) (hk : n ≤ sizes.length) (hn : n ≤ 1000) : ∃ t : Str, m__law_layer c [.lst (row.map .int), .int (n : Nat)] = .ok (.str t) ∧ layerOf n t = true ∧ t.length = n := by
  have ha := alls_is
  obtain ⟨xs, h1, h2, h3⟩ := lc_ex (P := fun x => inS x signs = true) (i := 2) (e := le__law_layer_1 c) (δ := wipeE [some (.lst (row.map .int)), some (.int (n : Nat)), none] [2]) n 0 fun k _ hk2 => by
    obtain ⟨x, hx, v, hv, hix⟩ := layer_sign hd (k := k) (by omega)
    refine ⟨x, hx, ?_⟩
    have hl : alls.length ≤ 16777216 := by rw [alls_len]; omega
    unfold le__law_layer_1
    rw [ha]
    generalize alls = G at *
    simp -implicitDefEqProofs [wipeE, hv, hix, hl, sizeLine_eq]
  refine ⟨mkS xs, ?_, all_layer h2 h3, by rw [mkS_len, h2]⟩
  have hj := join_mk (xs := xs) (by omega)
  have hn2 : n ≤ 16777216 := by omega
  have hrg := DL.rg_small (n := n) (by omega)
  have h1 : lcL (cN 2) cTrue (le__law_layer_1 c) (wipeE [some (.lst (row.map .int)), some (.int (n : Nat)), none] [2]) (DL.upTo 0 n) = .ok (xs.map sign) := h1
  have hul : (DL.upTo 0 n).length = n := upTo_len.symm
  unfold m__law_layer fnD mm__law_layer
  simp -implicitDefEqProofs [startX, q_eLc, hrg, h1, hul, hn2, sizeLine_eq, hj]
/-! ### names drawn -/
def okName (t : Str) : Prop := isName t = true
def alnum : Str := letters ++ digits
theorem alnum_len : alnum.length = 36 := by decide +kernel
theorem letters_len : letters.length = 26 := by decide +kernel
theorem digits_len : digits.length = 10 := by decide +kernel
theorem alnum_in : ∀ x ∈ alnum.cps.toList, nameSign x = true := by decide +kernel
theorem letters_in : ∀ x ∈ letters.cps.toList, inS x letters = true ∧ nameSign x = true := by decide +kernel
def wordsN : List Str := ["stock", "pair", "look", "rows", "press", "used", "top", "bare"]
theorem wordsN_ok : ∀ w ∈ wordsN, isName w = true := by decide +kernel
theorem alnum_is : e2 dAdd (Rs.ok (.str letters)) (Rs.ok (.str "0123456789")) = .ok (.str alnum) := by
  have h2 : (letters : Str).length = 26 := letters_len
  have h3 : ("0123456789" : Str).length = 10 := digits_len
  rw [q_e2, Rs.bind_ok, Rs.bind_ok, q_add_str, h2, h3, if_pos (by rw [sizeLine_eq]; omega), ofO_some]
  rfl
theorem name_of {x : Nat} {xs : List Nat} (h : inS x letters = true) (hx : nameSign x = true) (hxs : ∀ y ∈ xs, nameSign y = true) (hl : xs.length ≤ 7) : isName (mkS (x :: xs)) = true := by
  unfold isName
  rw [mkS_len, mkS_list]
  simp only [List.length_cons, List.headD_cons, h, List.all_cons, hx, Bool.and_true, Bool.true_and, Bool.and_eq_true, decide_eq_true_eq, List.all_eq_true]
  exact ⟨⟨by omega, by omega⟩, hxs⟩
theorem name_drawn {row sizes : List Int} (hd : Dig sizes row) (q0 : sizes[0]? = some 12) (q1 : sizes[1]? = some 8) (q2 : sizes[2]? = some 26) (q3 : ∀ k, k < 7 → sizes[3 + k]? = some 36) : ∃ t : Str, m__law_name c [.lst (row.map .int)] = .ok (.str t) ∧ isName t = true := by
  obtain ⟨v0, r0, v00, v01⟩ := hd.at (i := 0) q0
  obtain ⟨v1, r1, v10, v11⟩ := hd.at (i := 1) q1
  obtain ⟨v2, r2, v20, v21⟩ := hd.at (i := 2) q2
  have r0 : atI (row.map D.int) 0 = some (.int v0) := r0
  have r1 : atI (row.map D.int) 1 = some (.int v1) := r1
  have r2 : atI (row.map D.int) 2 = some (.int v2) := r2
  unfold m__law_name fnD mm__law_name
  have s0 : startX 3 [.lst (row.map .int)] = ⟨[some (.dat (.lst (row.map .int))), none, none], []⟩ := rfl
  have hlet : ("abcdefghijklmnopqrstuvwxyz" : Str) = letters := rfl
  rw [if_pos (by rfl), s0, hlet]
  have w1 : sSet 1 (xB fun δ => (Rs.ok (.str letters))) ⟨[some (.dat (.lst (row.map .int))), none, none], []⟩ = .nx ⟨[some (.dat (.lst (row.map .int))), some (.dat (.str letters)), none], []⟩ := by
    simp -implicitDefEqProofs
  rw [seq_nx w1]
  by_cases hz : v0 = 0
  · obtain ⟨w, hw, hm⟩ := at_dd (ls := wordsN) (i := v1) v10 (by show v1 < 8; exact v11)
    refine ⟨w, ?_, wordsN_ok w hm⟩
    have hw : atI [D.str "stock", .str "pair", .str "look", .str "rows", .str "press", .str "used", .str "top", .str "bare"] v1 = some (.str w) := hw
    simp -implicitDefEqProofs [r0, hz, r1, hw, sizeLine_eq]
  · obtain ⟨x, hx, hxm⟩ := str_at (z := letters) (i := v2) v20 (by rw [letters_len]; omega)
    have hal := alnum_is
    obtain ⟨xs, h1, h2, h3⟩ := lc_ex (P := fun x => nameSign x = true) (i := 2) (e := le__law_name_1 c) (δ := wipeE [some (.lst (row.map .int)), some (.str letters), none] [2]) v1.toNat 0 fun k _ hk2 => by
      obtain ⟨v, hv, vv0, vv1⟩ := hd.at (i := 3 + k) (q3 k (by omega))
      obtain ⟨y, hy, hym⟩ := str_at (z := alnum) (i := v) vv0 (by rw [alnum_len]; omega)
      refine ⟨y, alnum_in y hym, ?_⟩
      have hl : alnum.length ≤ 16777216 := by rw [alnum_len]; omega
      have e3 : (3 : Int) + (k : Int) = ((3 + k : Nat) : Int) := by omega
      unfold le__law_name_1
      have hv1 : eVar 1 ((wipeE [some (D.lst (row.map .int)), some (.str letters), none] [2]).set 2 (some (.int (k : Nat)))) = .ok (.str letters) := rfl
      rw [hv1, hal]
      generalize alnum = G at *
      simp -implicitDefEqProofs only [wipeE, List.foldl, List.set_cons_succ, List.set_cons_zero, q_e2, q_eVar0, q_eVarS, Rs.bind_ok, q_add_int, ofO_some, e3, q_ix_lst, hv, q_ix_str, sizeLine_eq, if_pos hl, hy, Option.map_some]
    refine ⟨mkS (x :: xs), ?_, name_of (letters_in x hxm).1 (letters_in x hxm).2 h3 (by omega)⟩
    have hj := join_mk (xs := xs) (by omega)
    have hn2 : v1.toNat ≤ 16777216 := by omega
    have hrg : rgOk v1 = true := by
      have h := DL.rg_small (n := v1.toNat) (by omega)
      have e : ((v1.toNat : Nat) : Int) = v1 := by omega
      rwa [e] at h
    have h1 : lcL (cN 2) cTrue (le__law_name_1 c) (wipeE [some (.lst (row.map .int)), some (.str letters), none] [2]) (DL.upTo 0 v1.toNat) = .ok (xs.map sign) := h1
    have hul : (DL.upTo 0 v1.toNat).length = v1.toNat := upTo_len.symm
    have hll : letters.length ≤ 16777216 := by rw [letters_len]; omega
    have h1l : 1 + (mkS xs).length ≤ 16777216 := by rw [mkS_len]; omega
    have happ : (⟨#[x]⟩ : Str) ++ mkS xs = mkS (x :: xs) := by
      apply str_ext
      rw [app_list]
      rfl
    generalize letters = G at *
    simp -implicitDefEqProofs [r0, hz, r1, r2, hll, hx, q_eLc, hrg, h1, hul, hn2, sizeLine_eq, hj, sign, sign_len, h1l, happ]
end
end LK
set_option Elab.async false
set_option linter.all false
set_option maxRecDepth 100000
set_option maxHeartbeats 1000000
namespace LK
open PySem PySem.Spec PyProof.Rows L2 DL
set_option autoImplicit false
section
variable {c : Ad}
/-! ### fresh names -/
def qn (k : Nat) : Str := "q" ++ toString (k : Int)
theorem qn_ok : ∀ k : Nat, k < 60 → isName (qn k) = true ∧ (toString (k : Int) : Str).length ≤ 10 ∧ (k : Int).natAbs.log2 < 1920 := by decide +kernel
theorem qn_inj : ∀ i : Nat, i < 60 → ∀ j : Nat, j < 60 → qn i = qn j → i = j := by decide +kernel
theorem q_len : ("q" : Str).length = 1 := by decide
theorem in_strs (a : Str) (ts : List Str) : dNotIn (.str a) (.lst (ts.map .str)) = some (.bl (!(ts.any fun t => t == a))) := by
  have h1 : (ts.map D.str).all flatD = true := by simp [List.all_map, Function.comp_def, flatD]
  have h2 : ((ts.map D.str).any fun d => flatEq d (.str a)) = ts.any fun t => t == a := by
    rw [List.any_map]
    rfl
  unfold dNotIn inSeq
  dsimp only
  rw [h1, h2]
  rfl
theorem any_mem {a : Str} {ts : List Str} : (ts.any fun t => t == a) = true ↔ a ∈ ts := by
  rw [List.any_eq_true]
  constructor
  · rintro ⟨t, h1, h2⟩
    rwa [beq_iff_eq.mp h2] at h1
  · intro h
    exact ⟨a, h, beq_self_eq_true a⟩
theorem pigeon : ∀ (n : Nat) (ts : List Str), n ≤ 60 → (∀ k, k < n → qn k ∈ ts) → n ≤ ts.length
  | 0, _, _, _ => Nat.zero_le _
  | n + 1, ts, hn, h => by
    have hm := h n (by omega)
    have ih := pigeon n (ts.erase (qn n)) (by omega) fun k hk => by
      have hk2 := h k (by omega)
      have hne : qn k ≠ qn n := fun z => by
        have := qn_inj k (by omega) n (by omega) z
        omega
      exact (List.mem_erase_of_ne hne).mpr hk2
    rw [List.length_erase_of_mem hm] at ih
    have : 0 < ts.length := List.length_pos_of_mem hm
    omega
theorem fresh_loop (a : Str) (ts : List Str) : ∀ (n i : Nat) (x : Option Xv), i + n ≤ 60 →
    (∃ k, i ≤ k ∧ k < i + n ∧ qn k ∉ ts ∧ forL (gN 2) (lb__law_fresh_1 c) (DL.upTo (i : Nat) n) ⟨[some (.dat (.str a)), some (.dat (.lst (ts.map .str))), x], []⟩ = .ret (.str (qn k))) ∨
    ((∀ k, i ≤ k → k < i + n → qn k ∈ ts) ∧ ∃ y, forL (gN 2) (lb__law_fresh_1 c) (DL.upTo (i : Nat) n) ⟨[some (.dat (.str a)), some (.dat (.lst (ts.map .str))), x], []⟩ = .nx ⟨[some (.dat (.str a)), some (.dat (.lst (ts.map .str))), y], []⟩)
  | 0, i, x, _ => .inr ⟨fun k a b => by omega, x, rfl⟩
  | n + 1, i, x, hi => by
    obtain ⟨_, h2, h3⟩ := qn_ok i (by omega)
    have hin := in_strs (qn i) ts
    have hl : 1 + (toString (i : Int) : Str).length ≤ 16777216 := by omega
    have hqn : ("q" : Str) ++ toString (i : Int) = qn i := rfl
    have hb : lb__law_fresh_1 c ⟨[some (.dat (.str a)), some (.dat (.lst (ts.map .str))), some (.dat (.int (i : Nat)))], []⟩ = if (ts.any fun t => t == qn i) = true then .nx ⟨[some (.dat (.str a)), some (.dat (.lst (ts.map .str))), some (.dat (.int (i : Nat)))], []⟩ else .ret (.str (qn i)) := by
      unfold lb__law_fresh_1
      generalize hg : (toString (i : Int) : Str) = g at *
      have hcs : cStr [.int (i : Nat)] = some (.str g) := by
        show (if (i : Int).natAbs.log2 < 1920 then some (D.str (toString (i : Int))) else none) = _
        rw [if_pos h3, hg]
      generalize qn i = q at *
      cases hq : (ts.any fun t => t == q) <;> rw [hq] at hin <;> simp -implicitDefEqProofs [hcs, q_len, hl, sizeLine_eq, hqn, hin, -List.any_eq_true, -List.any_eq_false]
    rw [upTo_cons]
    unfold forL
    have hg : gN 2 (.int (i : Nat)) ⟨[some (.dat (.str a)), some (.dat (.lst (ts.map .str))), x], []⟩ = some ⟨[some (.dat (.str a)), some (.dat (.lst (ts.map .str))), some (.dat (.int (i : Nat)))], []⟩ := rfl
    rw [hg]
    dsimp only
    rw [hb]
    by_cases hq : (ts.any fun t => t == qn i) = true
    · rw [if_pos hq]
      have e3 : ((i : Nat) : Int) + 1 = ((i + 1 : Nat) : Int) := by omega
      rw [e3]
      rcases fresh_loop a ts n (i + 1) (some (.dat (.int (i : Nat)))) (by omega) with ⟨k, k1, k2, k3, k4⟩ | ⟨k1, y, k2⟩
      · exact .inl ⟨k, by omega, by omega, k3, k4⟩
      · refine .inr ⟨fun k a b => ?_, y, k2⟩
        by_cases hk : k = i
        · subst hk
          exact any_mem.mp hq
        · exact k1 k (by omega) (by omega)
    · rw [if_neg hq]
      exact .inl ⟨i, Nat.le_refl _, by omega, fun z => hq (any_mem.mpr z), rfl⟩
theorem fresh_is (a : Str) (ts : List Str) : ∃ t : Str, m__law_fresh c [.str a, .lst (ts.map .str)] = .ok (.str t) ∧ (t = a ∨ isName t = true) ∧ (ts.length < 60 → t ∉ ts) := by
  have hin := in_strs a ts
  unfold m__law_fresh fnD mm__law_fresh
  have s0 : startX 3 [.str a, .lst (ts.map .str)] = ⟨[some (.dat (.str a)), some (.dat (.lst (ts.map .str))), none], []⟩ := rfl
  rw [if_pos (by rfl), s0]
  by_cases ha : (ts.any fun t => t == a) = true
  · rw [ha] at hin
    rw [seq_skip (by simp -implicitDefEqProofs [hin])]
    have hlp : lp__law_fresh_1 c ⟨[some (.dat (.str a)), some (.dat (.lst (ts.map .str))), none], []⟩ = forL (gN 2) (lb__law_fresh_1 c) (DL.upTo (0 : Nat) 60) ⟨[some (.dat (.str a)), some (.dat (.lst (ts.map .str))), none], []⟩ := by
      unfold lp__law_fresh_1
      rw [q_sFor]
      have h60 : rgOk 60 = true := DL.rg_small (n := 60) (by omega)
      have hit : (iRg rng1 (aCons (Rs.ok (.int 60)) (Rs.ok []))) = .ok (DL.upTo (0 : Nat) 60) := by
        rw [q_aCons, Rs.bind_ok, Rs.bind_ok, q_iRg, Rs.bind_ok, q_rng1, if_pos h60]
        rfl
      rw [hit, q_oX_ok]
    rcases fresh_loop (c := c) a ts 60 0 none (by omega) with ⟨k, k1, k2, k3, k4⟩ | ⟨k1, y, k2⟩
    · refine ⟨qn k, ?_, .inr (qn_ok k (by omega)).1, fun _ => k3⟩
      rw [seq_ret (hlp.trans k4)]
      rfl
    · refine ⟨a, ?_, .inl rfl, fun hlt => ?_⟩
      · rw [seq_nx (hlp.trans k2)]
        simp -implicitDefEqProofs
      · have := pigeon 60 ts (Nat.le_refl _) fun k hk => k1 k (by omega) (by omega)
        omega
  · have ha' : (ts.any fun t => t == a) = false := (Bool.not_eq_true _).mp ha
    rw [ha'] at hin
    refine ⟨a, ?_, .inl rfl, fun _ z => ha (any_mem.mpr z)⟩
    simp -implicitDefEqProofs [hin]
/-! ### stamps drawn -/
theorem Dig.drop {sizes row : List Int} (h : Dig sizes row) (k : Nat) : Dig (sizes.drop k) (row.drop k) := by
  refine ⟨by rw [List.length_drop, List.length_drop, h.1], fun i x s h1 h2 => ?_⟩
  rw [List.getElem?_drop] at h1 h2
  exact h.2 _ x s h1 h2
theorem Dig.nonneg {sizes row : List Int} (h : Dig sizes row) : ∀ x ∈ row, 0 ≤ x := fun x hx => by
  obtain ⟨i, hi, rfl⟩ := List.getElem_of_mem hx
  have hs : i < sizes.length := by rw [← h.1]; exact hi
  exact (h.2 i _ _ (List.getElem?_eq_getElem hi) (List.getElem?_eq_getElem hs)).1
theorem slice_rows (row : List Int) (k : Nat) : dSl (.lst (row.map .int)) (some (k : Int)) none = some (.lst ((row.drop k).map .int)) := by
  show some (D.lst (DL.cutD (row.map .int) (some (k : Int)) none)) = _
  unfold DL.cutD
  rw [HT.sIx_nat, HT.sIx_none]
  by_cases hk : k ≤ row.length
  · have : min k (row.map D.int).length = k := by rw [List.length_map]; omega
    rw [this, ← List.map_drop, List.take_of_length_le (by simp)]
  · have : min k (row.map D.int).length = row.length := by rw [List.length_map]; omega
    rw [this, ← List.map_drop, List.drop_of_length_le (Nat.le_refl _), List.drop_of_length_le (by omega)]
    simp
theorem ints_of : ∀ xs : List Int, intsOf (xs.map D.int) = some xs
  | [] => rfl
  | x :: xs => by
    rw [List.map_cons]
    unfold intsOf
    rw [ints_of xs]
    rfl
theorem cut_to {xs : List Nat} {k : Nat} (h : k ≤ xs.length) : cutS (mkS xs) none (some (k : Int)) = mkS (xs.take k) := by
  unfold cutS
  rw [HT.sIx_none, HT.sIx_nat]
  have : min k (mkS xs).length = k := by rw [mkS_len]; omega
  rw [this, List.drop_zero, Nat.sub_zero]
  rfl
theorem cut_from {xs : List Nat} {k : Nat} (h : k ≤ xs.length) : cutS (mkS xs) (some (k : Int)) none = mkS (xs.drop k) := by
  unfold cutS
  rw [HT.sIx_none, HT.sIx_nat]
  have : min k (mkS xs).length = k := by rw [mkS_len]; omega
  rw [this, mkS_list, List.take_of_length_le (by rw [List.length_drop, mkS_len]; omega)]
  rfl
theorem dashes_in (n : Nat) (hn : n ≤ 30) : ∀ x ∈ (dashes (n : Int)).cps.toList, x = 45 := by
  have : ∀ k : Nat, k < 31 → ∀ x ∈ (dashes (k : Int)).cps.toList, x = 45 := by decide +kernel
  exact this n (by omega)
theorem any_stamp_is {n : Nat} {row sizes : List Int} (hd : Dig sizes row) (hk : n ≤ sizes.length) (hn0 : 1 ≤ n) (hn : n ≤ 30) : ∃ t : Str, m__law_any_stamp c [.lst (row.map .int), .int (n : Nat)] = .ok (.str t) ∧ layerOf n t = true ∧ (t == dashes n) = false ∧ t.length = n := by
  have ha := alls_is
  have hmk : (".abcdefghijklmnopqrstuvwxyz" : Str) = ".abcdefghijklmnopqrstuvwxyz" := rfl
  obtain ⟨xs, h1, h2, h3⟩ := lc_ex (P := fun x => inS x signs = true) (i := 5) (e := le__law_any_stamp_1 c) (δ := wipeE [some (.lst (row.map .int)), some (.int (n : Nat)), some (.str ".abcdefghijklmnopqrstuvwxyz"), none, none, none] [5]) n 0 fun k _ hk2 => by
    obtain ⟨x, hx, v, hv, hix⟩ := layer_sign hd (k := k) (by omega)
    refine ⟨x, hx, ?_⟩
    have hl : alls.length ≤ 16777216 := by rw [alls_len]; omega
    unfold le__law_any_stamp_1
    have hv1 : eVar 2 ((wipeE [some (.lst (row.map .int)), some (.int (n : Nat)), some (.str ".abcdefghijklmnopqrstuvwxyz"), none, none, none] [5]).set 5 (some (.int (k : Nat)))) = .ok (.str ".abcdefghijklmnopqrstuvwxyz") := rfl
    rw [hv1, ha]
    generalize alls = G at *
    simp -implicitDefEqProofs [wipeE, hv, hix, hl, sizeLine_eq]
  have h1 : lcL (cN 5) cTrue (le__law_any_stamp_1 c) (wipeE [some (.lst (row.map .int)), some (.int (n : Nat)), some (.str ".abcdefghijklmnopqrstuvwxyz"), none, none, none] [5]) (DL.upTo 0 n) = .ok (xs.map sign) := h1
  have hj := join_mk (xs := xs) (by omega)
  have hn2 : n ≤ 16777216 := by omega
  have hrg := DL.rg_small (n := n) (by omega)
  have hul : (DL.upTo 0 n).length = n := upTo_len.symm
  have hml := mulOk_dash (n := (n : Int)) (by omega) (by omega)
  have hdash : Txt.mul "-" (n : Int) = dashes n := rfl
  have hsz : (mkS xs).length ≤ sizeLine := by rw [mkS_len, sizeLine_eq]; omega
  unfold m__law_any_stamp fnD mm__law_any_stamp
  have s0 : startX 6 [.lst (row.map .int), .int (n : Nat)] = ⟨[some (.dat (.lst (row.map .int))), some (.dat (.int (n : Nat))), none, none, none, none], []⟩ := rfl
  rw [if_pos (by rfl), s0]
  have w2 : sSet 2 (xB fun δ => (Rs.ok (.str ".abcdefghijklmnopqrstuvwxyz"))) ⟨[some (.dat (.lst (row.map .int))), some (.dat (.int (n : Nat))), none, none, none, none], []⟩ = .nx ⟨[some (.dat (.lst (row.map .int))), some (.dat (.int (n : Nat))), some (.dat (.str ".abcdefghijklmnopqrstuvwxyz")), none, none, none], []⟩ := by
    simp -implicitDefEqProofs
  rw [seq_nx w2]
  have hm27 := len27
  have hmi := marks_in
  generalize hG : (".abcdefghijklmnopqrstuvwxyz" : Str) = G at *
  have w3 : sSet 3 (xB fun δ => (eMb "str" mJoin (Rs.ok (.str "")) (aCons (((eLc [5] (cN 5) cTrue (le__law_any_stamp_1 c) δ (iRg rng1 (aCons (eVar 1 δ) (Rs.ok []))))).bind noD) (Rs.ok [])))) ⟨[some (.dat (.lst (row.map .int))), some (.dat (.int (n : Nat))), some (.dat (.str G)), none, none, none], []⟩ = .nx ⟨[some (.dat (.lst (row.map .int))), some (.dat (.int (n : Nat))), some (.dat (.str G)), some (.dat (.str (mkS xs))), none, none], []⟩ := by
    simp -implicitDefEqProofs [q_eLc, hrg, h1, hul, hn2, sizeLine_eq, hj]
  rw [seq_nx w3]
  cases he : (mkS xs == dashes n) with
  | false =>
    refine ⟨mkS xs, ?_, all_layer h2 h3, he, by rw [mkS_len, h2]⟩
    simp -implicitDefEqProofs [hml, hdash, he]
  | true =>
    obtain ⟨v, r0, v0, v1⟩ := hd.at (i := 0) (s := sizes[0]) (List.getElem?_eq_getElem (by omega))
    have r0 : atI (row.map D.int) 0 = some (.int v) := r0
    have hsum := ints_of row
    obtain ⟨a, hae⟩ : ∃ a : Nat, (a : Int) = row.sum % (n : Int) := ⟨(row.sum % (n : Int)).toNat, by
      have := Int.emod_nonneg row.sum (show ((n : Nat) : Int) ≠ 0 by omega)
      omega⟩
    have han : a < n := by
      have := Int.emod_lt_of_pos row.sum (show (0 : Int) < (n : Nat) by omega)
      omega
    obtain ⟨x, hx, hxm⟩ := str_at (z := G) (i := v % 27) (by omega) (by rw [hm27]; omega)
    obtain ⟨x1, x2⟩ := hmi x hxm
    have hp0 : (0 : Int) < (n : Int) := by omega
    have hc1 := cut_to (xs := xs) (k := a) (by omega)
    have hc2 := cut_from (xs := xs) (k := a + 1) (by omega)
    have hs1 := sl_str hsz none (some (a : Int))
    have hs2 := sl_str hsz (some ((a + 1 : Nat) : Int)) none
    rw [hc1] at hs1
    rw [hc2] at hs2
    have ea : (a : Int) + 1 = ((a + 1 : Nat) : Int) := by omega
    have hcat : mkS (xs.take a) ++ (⟨#[x]⟩ : Str) ++ mkS (xs.drop (a + 1)) = mkS (xs.take a ++ [x] ++ xs.drop (a + 1)) := by
      apply str_ext
      rw [app_list, app_list]
      rfl
    have hlen : (xs.take a ++ [x] ++ xs.drop (a + 1)).length = n := by
      simp
      omega
    refine ⟨mkS (xs.take a ++ [x] ++ xs.drop (a + 1)), ?_, all_layer hlen ?_, ?_, by rw [mkS_len, hlen]⟩
    · have k1 : (mkS (xs.take a)).length + 1 ≤ 16777216 := by rw [mkS_len, List.length_take]; omega
      have k2 : (mkS (xs.take a) ++ (⟨#[x]⟩ : Str)).length + (mkS (xs.drop (a + 1))).length ≤ 16777216 := by
        rw [len_app, mkS_len, mkS_len, sign_len, List.length_take, List.length_drop]
        omega
      have hGl : G.length ≤ 16777216 := by omega
      have hn0' : 0 < n := by omega
      rw [seq_yes (by simp -implicitDefEqProofs [hml, hdash, he])]
      rw [q_sSeq]
      have w4 : sSet 4 (xB fun δ => (e2 dMod (eCb cInt (aCons (eCb cSum (aCons (eVar 0 δ) (Rs.ok []))) (Rs.ok []))) (eVar 1 δ))) ⟨[some (.dat (.lst (row.map .int))), some (.dat (.int (n : Nat))), some (.dat (.str G)), some (.dat (.str (mkS xs))), none, none], []⟩ = .nx ⟨[some (.dat (.lst (row.map .int))), some (.dat (.int (n : Nat))), some (.dat (.str G)), some (.dat (.str (mkS xs))), some (.dat (.int (a : Nat))), none], []⟩ := by
        simp -implicitDefEqProofs [cSum, hsum, hn0', hae]
      rw [seq_nx w4]
      have w5 : sSet 3 (xB fun δ => (e2 dAdd (e2 dAdd (eSl (eVar 3 δ) (Rs.ok none) (oPart (eVar 4 δ))) (e2 dIx (eVar 2 δ) (e2 dMod (eCb cInt (aCons (e2 dIx (eVar 0 δ) (Rs.ok (.int 0))) (Rs.ok []))) (Rs.ok (.int 27))))) (eSl (eVar 3 δ) (oPart (e2 dAdd (eVar 4 δ) (Rs.ok (.int 1)))) (Rs.ok none)))) ⟨[some (.dat (.lst (row.map .int))), some (.dat (.int (n : Nat))), some (.dat (.str G)), some (.dat (.str (mkS xs))), some (.dat (.int (a : Nat))), none], []⟩ = .nx ⟨[some (.dat (.lst (row.map .int))), some (.dat (.int (n : Nat))), some (.dat (.str G)), some (.dat (.str (mkS (xs.take a ++ [x] ++ xs.drop (a + 1))))), some (.dat (.int (a : Nat))), none], []⟩ := by
        rw [← hcat]
        simp -implicitDefEqProofs only [q_sSet, q_xB, q_envB, List.map_cons, List.map_nil, Option.bind_some, Option.bind_none, q_baseX_dat, q_e2, q_eSl, q_eVar0, q_eVarS, q_oPart, Rs.bind_ok, hs1, ofO_some, q_eCb, q_aCons, q_ix_lst, r0, q_cInt_int, q_mod_int, q_ix_str, sizeLine_eq, if_pos hGl, hx, Option.map_some, sign, q_add_str, sign_len, if_pos k1, q_add_int, ea, hs2, if_pos k2, q_oX_ok, q_put, List.set_cons_succ, List.set_cons_zero, show ((0 : Int) < 27) = True from eq_true (by omega), if_true]
      rw [w5]
      simp -implicitDefEqProofs
    · intro y hy
      rcases List.mem_append.mp hy with hy | hy
      · rcases List.mem_append.mp hy with hy | hy
        · exact h3 y (List.mem_of_mem_take hy)
        · rw [List.mem_singleton.mp hy]
          exact x1
      · exact h3 y (List.mem_of_mem_drop hy)
    · refine beq_eq_false_iff_ne.mpr fun z => x2 ?_
      refine dashes_in n hn x ?_
      rw [← z, mkS_list]
      simp
end
end LK
set_option Elab.async false
set_option linter.all false
set_option maxRecDepth 100000
set_option maxHeartbeats 1000000
namespace LK
open PySem PySem.Spec PyProof.Rows L2 DL
set_option autoImplicit false
section
variable {c : Ad}
/-! ### a list of own lists -/
def pcell (p : Str × Str) : Option OO := some (.lst [.dat (.str p.1), .dat (.str p.2)])
def ceS (st : Tps) : List (Option OO) := some (.lst ((List.range st.length).map fun i => Xv.cell (i + 1))) :: st.map pcell
def pairsD (st : Tps) : List D := st.map (pairD true)
theorem mapM_some {α β : Type} {f : α → Option β} {g : α → β} : ∀ (xs : List α), (∀ x ∈ xs, f x = some (g x)) → xs.mapM f = some (xs.map g)
  | [], _ => rfl
  | x :: xs, h => by
    rw [List.mapM_cons, h x (List.mem_cons_self ..), mapM_some xs fun y hy => h y (List.mem_cons_of_mem _ hy)]
    rfl
theorem view_cell (ce : List (Option OO)) (st : Tps) (i : Nat) (h : i < st.length) (hce : ce[i + 1]? = (st.map pcell)[i]?) : viewX ce 2 (.cell (i + 1)) = some (pairD true st[i]) := by
  rw [q_view2, hce, List.getElem?_map, List.getElem?_eq_getElem h]
  rfl
theorem view_own (st : Tps) : viewX (ceS st) 3 (.cell 0) = some (.lst (pairsD st)) := by
  rw [q_view3]
  show viewO (ceS st) 2 (some (some (.lst ((List.range st.length).map fun i => Xv.cell (i + 1))))) = _
  show (((List.range st.length).map fun i => Xv.cell (i + 1)).mapM (viewX (ceS st) 2)).map D.lst = _
  have h : ((List.range st.length).map fun i => Xv.cell (i + 1)).mapM (viewX (ceS st) 2) = some (((List.range st.length).map fun i => Xv.cell (i + 1)).map fun x => match x with | .cell (i + 1) => (pairsD st).getD i .non | _ => .non) := mapM_some _ fun x hx => by
    obtain ⟨i, hi, rfl⟩ := List.mem_map.mp hx
    have hi := List.mem_range.mp hi
    rw [view_cell (ceS st) st i hi rfl]
    show _ = some ((pairsD st).getD i .non)
    unfold pairsD
    rw [List.getD_eq_getElem?_getD, List.getElem?_map, List.getElem?_eq_getElem hi]
    rfl
  rw [h]
  show some (D.lst _) = _
  congr 2
  rw [List.map_map]
  apply List.ext_getElem?
  intro i
  by_cases hi : i < st.length
  · rw [List.getElem?_map, List.getElem?_range hi]
    show some ((pairsD st).getD i .non) = _
    have : i < (pairsD st).length := by unfold pairsD; rwa [List.length_map]
    rw [List.getD_eq_getElem?_getD, List.getElem?_eq_getElem this]
    rfl
  · rw [List.getElem?_eq_none (by simp; omega), List.getElem?_eq_none (by unfold pairsD; simp; omega)]
def sizesS (n : Nat) : List Int := 12 :: 8 :: 26 :: (List.replicate 7 36 ++ List.replicate n 54)
theorem sizesS_ok (n : Nat) : ∀ s ∈ sizesS n, 0 < s ∧ s < 1000000 := by
  intro s hs
  unfold sizesS at hs
  simp only [List.mem_cons, List.mem_append, List.mem_replicate] at hs
  omega
theorem stamp_sizes {n : Nat} (hn : n ≤ 30) (δ : Dv) (h3 : eVar 3 δ = .ok (.int (n : Nat))) : (e2 dAdd (e2 dAdd (((nLst (aCons (Rs.ok (.int 12)) (aCons (Rs.ok (.int 8)) (aCons (Rs.ok (.int 26)) (Rs.ok [])))))).bind noD) (e2 dMul (((nLst (aCons (Rs.ok (.int 36)) (Rs.ok [])))).bind noD) (Rs.ok (.int 7)))) (e2 dMul (((nLst (aCons (Rs.ok (.int 54)) (Rs.ok [])))).bind noD) (eVar 3 δ))) = .ok (.lst ((sizesS n).map .int)) := by
  have h7 := mul1 (d := .int 36) (n := 7) (by omega) (by omega)
  have hn2 := mul1 (d := .int 54) (n := (n : Int)) (by omega) (by omega)
  have e7 : (7 : Int).toNat = 7 := rfl
  rw [e7] at h7
  rw [Int.toNat_natCast] at hn2
  have hl : n + 7 + 1 + 1 + 1 ≤ 16777216 := by omega
  have hl2 : 7 + 1 + 1 + 1 + n ≤ 16777216 := by omega
  simp -implicitDefEqProofs [h7, hn2, h3, sizeLine_eq, sizesS, hl, hl2]
theorem names_of (ce : List (Option Xv)) (x0 x1 x2 x3 x4 x5 x6 x7 x8 : Option D) (st : Tps) : lcL (cN 8) cTrue (le__law_stamps_1 c) (wipeE [x0, x1, x2, x3, x4, x5, x6, x7, x8] [8]) (pairsD st) = .ok ((st.map (·.1)).map .str) := by
  rw [List.map_map]
  exact lc_mapA st fun p _ => by simp -implicitDefEqProofs [le__law_stamps_1, wipeE, pairD, atI_zero]
def stO (ns : List Int) (many n : Nat) (x5 x6 x7 : Option Xv) (st : Tps) : S :=
  ⟨[some (.dat (.sq ns)), some (.dat (.int 1)), some (.dat (.int (many : Nat))), some (.dat (.int (n : Nat))), some (.cell 0), x5, x6, x7, none], ceS st⟩
theorem isName_len {t : Str} (h : isName t = true) : t.length ≤ 8 := by
  unfold isName at h
  simp only [Bool.and_eq_true, decide_eq_true_eq] at h
  omega
theorem ceS_app (st : Tps) (p : Str × Str) : ((ceS st).set 0 (some (.lst (((List.range st.length).map fun i => Xv.cell (i + 1)) ++ [.cell (ceS st).length])))) ++ [pcell p] = ceS (st ++ [p]) := by
  unfold ceS
  simp [List.range_succ]
theorem stamps_turn {ns : List Int} {many n j : Nat} {x5 x6 x7 : Option Xv} {st : Tps} (hn0 : 1 ≤ n) (hn : n ≤ 30) (hj : j ≤ 24) (hl : st.length ≤ 24) (hf : allFresh [] st = true) :
    ∃ p y6 y7, goodP n p ∧ fresh1 st p = true ∧ lb__law_stamps_1 c (stO ns many n (some (.dat (.int (j : Nat)))) x6 x7 st) = .nx (stO ns many n (some (.dat (.int (j : Nat)))) y6 y7 (st ++ [p])) := by
  obtain ⟨z, hz⟩ := cell_is (c := c) ns (k := 1 + (j : Int)) (by omega) (by omega)
  obtain ⟨row, hd, hdig⟩ := digits_is (c := c) z (sizes := sizesS n) (dig_sizes (sizesS_ok n)) (by unfold sizesS; simp; omega)
  obtain ⟨a, ha, ha2⟩ := name_drawn (c := c) hd rfl rfl rfl (fun k hk => by
    unfold sizesS
    have : 3 + k = k + 1 + 1 + 1 := by omega
    rw [this, List.getElem?_cons_succ, List.getElem?_cons_succ, List.getElem?_cons_succ, List.getElem?_append_left (by simpa using hk), List.getElem?_replicate]
    simp [hk])
  obtain ⟨t, ht, ht2, ht3⟩ := fresh_is (c := c) a (st.map (·.1))
  have htn : isName t = true := by
    rcases ht2 with rfl | h
    · exact ha2
    · exact h
  have hni : t ∉ st.map (·.1) := ht3 (by rw [List.length_map]; omega)
  have hdd := hd.drop 10
  have hs10 : (sizesS n).drop 10 = List.replicate n 54 := rfl
  rw [hs10] at hdd
  obtain ⟨u, hu, hu2, hu3, hu4⟩ := any_stamp_is (c := c) hdd (by simp) hn0 hn
  have htl := isName_len htn
  refine ⟨(t, u), some (.dat (.lst (row.map .int))), some (.dat (.str t)), ⟨?_, ?_, ?_⟩, ?_, ?_⟩
  · unfold okSt
    rw [htn, hu2, hu3]
    rfl
  · show t.length ≤ sizeLine
    rw [sizeLine_eq]
    omega
  · show u.length ≤ sizeLine
    rw [sizeLine_eq]
    omega
  · unfold fresh1
    have : (st.any fun q => q.1 == t) = false := (Bool.not_eq_true _).mp fun z => hni (by
      obtain ⟨q, q1, q2⟩ := List.any_eq_true.mp z
      exact List.mem_map.mpr ⟨q, q1, beq_iff_eq.mp q2⟩)
    rw [this]
    rfl
  · have hv3 : eVar 3 (envB (stO ns many n (some (.dat (.int (j : Nat)))) x6 x7 st)) = .ok (.int (n : Nat)) := rfl
    have hsz := stamp_sizes hn _ hv3
    have w6 : sSet 6 (xB fun δ => ((aCons ((aCons (eVar 0 δ) (aCons (e2 dAdd (eVar 1 δ) (eVar 5 δ)) (Rs.ok []))).bind (m__law_cell c)) (aCons (e2 dAdd (e2 dAdd (((nLst (aCons (Rs.ok (.int 12)) (aCons (Rs.ok (.int 8)) (aCons (Rs.ok (.int 26)) (Rs.ok [])))))).bind noD) (e2 dMul (((nLst (aCons (Rs.ok (.int 36)) (Rs.ok [])))).bind noD) (Rs.ok (.int 7)))) (e2 dMul (((nLst (aCons (Rs.ok (.int 54)) (Rs.ok [])))).bind noD) (eVar 3 δ))) (Rs.ok []))).bind (m__law_digits c))) (stO ns many n (some (.dat (.int (j : Nat)))) x6 x7 st) = .nx (stO ns many n (some (.dat (.int (j : Nat)))) (some (.dat (.lst (row.map .int)))) x7 st) := by
      rw [q_sSet, q_xB, hsz]
      generalize sizesS n = sz at *
      unfold stO
      simp -implicitDefEqProofs only [q_envB, List.map_cons, List.map_nil, Option.bind_some, Option.bind_none, q_baseX_dat, q_baseX_cell, q_aCons, q_eVar0, q_eVarS, Rs.bind_ok, q_e2, q_add_int, ofO_some, hz, hdig, q_oX_ok, q_put, List.set_cons_succ, List.set_cons_zero]
    have hvo := view_own st
    have hpl : (pairsD st).length ≤ 16777216 := by unfold pairsD; rw [List.length_map]; omega
    have w7 : sSet 7 (xV fun δ => ((aCons ((aCons (eVar 6 δ) (Rs.ok [])).bind (m__law_name c)) (aCons (((eLc [8] (cN 8) cTrue (le__law_stamps_1 c) δ (iItems (eVar 4 δ)))).bind noD) (Rs.ok []))).bind (m__law_fresh c))) (stO ns many n (some (.dat (.int (j : Nat)))) (some (.dat (.lst (row.map .int)))) x7 st) = .nx (stO ns many n (some (.dat (.int (j : Nat)))) (some (.dat (.lst (row.map .int)))) (some (.dat (.str t))) st) := by
      have hnm := fun a0 a1 a2 a3 a4 a5 a6 a7 a8 => names_of (c := c) [] a0 a1 a2 a3 a4 a5 a6 a7 a8 st
      unfold stO
      generalize ceS st = CE at *
      simp -implicitDefEqProofs only [q_sSet, q_xV, q_envV, List.map_cons, List.map_nil, Option.bind_some, Option.bind_none, q_viewX_dat, hvo, q_aCons, q_eVar0, q_eVarS, Rs.bind_ok, ha, q_eLc, q_iItems, q_items_lst, ofO_some, sizeLine_eq, if_pos hpl, hnm, q_only_ok, q_noD_lst, ht, q_okOnly, q_flat_str, q_oX_ok, q_put, List.set_cons_succ, List.set_cons_zero]
    unfold lb__law_stamps_1
    rw [seq_nx w6, seq_nx w7]
    have hsl := slice_rows row 10
    have hrl : st.length < 16777216 := by omega
    have hca := ceS_app st (t, u)
    have hc0 : (ceS st)[0]? = some (some (.lst ((List.range st.length).map fun i => Xv.cell (i + 1)))) := rfl
    have h2 : (2 : Nat) ≤ 16777216 := by omega
    have hsl : dSl (.lst (row.map .int)) (some 10) none = some (.lst ((row.drop 10).map .int)) := hsl
    generalize row.drop 10 = rd at *
    unfold stO
    rw [← hca]
    generalize ceS st = CE at *
    simp -implicitDefEqProofs only [sAppN, q_xC, List.getElem?_cons_succ, List.getElem?_cons_zero, q_cellAt, q_oX_ok, q_cellOf, hc0, List.length_map, List.length_range, if_pos hrl, q_envB, List.map_cons, List.map_nil, Option.bind_some, Option.bind_none, q_baseX_dat, q_baseX_cell, q_nLst, q_aCons, q_eVar0, q_eVarS, Rs.bind_ok, q_eSl, q_oPart, hsl, ofO_some, hu, List.length_cons, List.length_nil, Nat.zero_add, Nat.reduceAdd, sizeLine_eq, if_pos h2, q_noO_lst]
    rfl
theorem stamps_is (ns : List Int) {many n : Nat} (hn0 : 1 ≤ n) (hn : n ≤ 30) (hm : many ≤ 24) : ∃ st : Tps, m__law_stamps c [.sq ns, .int 1, .int (many : Nat), .int (n : Nat)] = .ok (.cell 0, ceS st) ∧ OkStock n st 24 ∧ st.length = many := by
  obtain ⟨s', e, st, x5, x6, x7, hl, hg, hf, rfl⟩ := forL_range (f := gN 5) (body := lb__law_stamps_1 c) (fun j s => ∃ (st : Tps) (x5 x6 x7 : Option Xv), st.length = j ∧ (∀ p ∈ st, goodP n p) ∧ allFresh [] st = true ∧ s = stO ns many n x5 x6 x7 st) many (stO ns many n none none none []) (fun j s hj hs => by
    obtain ⟨st, x5, x6, x7, hl, hg, hf, rfl⟩ := hs
    obtain ⟨p, y6, y7, p1, p2, p3⟩ := stamps_turn (c := c) (ns := ns) (many := many) (j := j) (x5 := x5) (x6 := x6) (x7 := x7) hn0 hn (by omega) (by omega) hf
    refine ⟨_, _, rfl, ?_, st ++ [p], some (.dat (.int (j : Nat))), y6, y7, by simp [hl], fun q hq => ?_, ?_, rfl⟩
    · have e : S.put (stO ns many n x5 x6 x7 st) 5 (.dat (.int (j : Nat))) = stO ns many n (some (.dat (.int (j : Nat)))) x6 x7 st := rfl
      rw [e, p3]
      rfl
    · rcases List.mem_append.mp hq with hq | hq
      · exact hg q hq
      · rw [List.mem_singleton.mp hq]
        exact p1
    · rw [fresh_app, hf]
      show (true && (fresh1 ([] ++ st) p && true)) = true
      rw [List.nil_append, p2]
      rfl) ⟨[], none, none, none, rfl, (fun _ h => by cases h), rfl, rfl⟩
  refine ⟨st, ?_, ⟨by omega, by omega, by omega, hg, hf⟩, hl⟩
  unfold m__law_stamps fnC mm__law_stamps
  have s0 : startX 9 [.sq ns, .int 1, .int (many : Nat), .int (n : Nat)] = ⟨[some (.dat (.sq ns)), some (.dat (.int 1)), some (.dat (.int (many : Nat))), some (.dat (.int (n : Nat))), none, none, none, none, none], []⟩ := rfl
  rw [if_pos (by rfl), s0]
  have w4 : sNew 4 (nB fun δ => (nLst (Rs.ok []))) ⟨[some (.dat (.sq ns)), some (.dat (.int 1)), some (.dat (.int (many : Nat))), some (.dat (.int (n : Nat))), none, none, none, none, none], []⟩ = .nx (stO ns many n none none none []) := by
    simp -implicitDefEqProofs [stO, ceS]
  rw [seq_nx w4]
  have hlp : lp__law_stamps_1 c (stO ns many n none none none []) = .nx (stO ns many n x5 x6 x7 st) := by
    unfold lp__law_stamps_1
    rw [q_sFor]
    have hit : (iRg rng1 (aCons (eVar 2 (envB (stO ns many n none none none []))) (Rs.ok []))) = .ok (DL.upTo 0 many) := by
      have hv : eVar 2 (envB (stO ns many n none none none [])) = .ok (.int (many : Nat)) := rfl
      rw [hv, q_aCons, Rs.bind_ok, Rs.bind_ok, q_iRg, Rs.bind_ok, q_rng1, if_pos (DL.rg_small (by omega)), ofO_some, Int.toNat_natCast]
    rw [hit]
    exact e
  rw [seq_nx hlp]
  rfl
end
end LK
set_option Elab.async false
set_option linter.all false
set_option maxRecDepth 100000
set_option maxHeartbeats 1000000
namespace LK
open PySem PySem.Spec PyProof.Rows L2 DL
set_option autoImplicit false
section
variable {c : Ad}
/-! ### texts and lists of texts of which only the length is known -/
def BT (r : Rs D) (n : Nat) : Prop := ∃ t : Str, r = .ok (.str t) ∧ t.length ≤ n
def BA (r : Rs (List D)) (k n : Nat) : Prop := ∃ ls : List Str, r = .ok (ls.map .str) ∧ ls.length = k ∧ ∀ l ∈ ls, l.length ≤ n
def BL (r : Rs D) (k n : Nat) : Prop := ∃ ls : List Str, r = .ok (.lst (ls.map .str)) ∧ ls.length = k ∧ ∀ l ∈ ls, l.length ≤ n
theorem bt_lit {s : Str} {n : Nat} (h : s.length ≤ n := by decide +kernel) : BT (.ok (.str s)) n := ⟨s, rfl, h⟩
theorem bt_add {a b : Rs D} {m n : Nat} (ha : BT a m) (hb : BT b n) (h : m + n ≤ 1000000 := by decide) : BT (e2 dAdd a b) (m + n) := by
  obtain ⟨s, rfl, h1⟩ := ha
  obtain ⟨t, rfl, h2⟩ := hb
  refine ⟨s ++ t, ?_, by rw [len_app]; omega⟩
  rw [q_e2, Rs.bind_ok, Rs.bind_ok, q_add_str, if_pos (by rw [sizeLine_eq]; omega), ofO_some]
theorem bt_up {r : Rs D} {m n : Nat} (h : BT r m) (hm : m ≤ n := by decide) : BT r n := by
  obtain ⟨t, h1, h2⟩ := h
  exact ⟨t, h1, by omega⟩
theorem bt_sl {a : Rs D} {lo hi : Rs (Option Int)} {l h : Option Int} {n : Nat} (ha : BT a n) (hl : lo = .ok l) (hh : hi = .ok h) (hn : n ≤ 1000000 := by decide) : BT (eSl a lo hi) n := by
  obtain ⟨s, rfl, h1⟩ := ha
  subst hl hh
  refine ⟨cutS s l h, ?_, Nat.le_trans (cut_len s l h) h1⟩
  rw [q_eSl, Rs.bind_ok, Rs.bind_ok, Rs.bind_ok, sl_str (by rw [sizeLine_eq]; omega), ofO_some]
theorem ba_nil {n : Nat} : BA (.ok []) 0 n := ⟨[], rfl, rfl, fun _ h => by cases h⟩
theorem ba_cons {a : Rs D} {as : Rs (List D)} {k m n : Nat} (ha : BT a m) (hs : BA as k n) (h : m ≤ n := by decide) : BA (aCons a as) (k + 1) n := by
  obtain ⟨s, rfl, h1⟩ := ha
  obtain ⟨ls, rfl, h2, h3⟩ := hs
  refine ⟨s :: ls, rfl, by rw [List.length_cons, h2], fun l hl => ?_⟩
  rcases List.mem_cons.mp hl with rfl | hl
  · omega
  · exact h3 l hl
theorem bl_lst {as : Rs (List D)} {k n : Nat} (h : BA as k n) (hk : k ≤ 1000 := by decide) : BL ((nLst as).bind noD) k n := by
  obtain ⟨ls, rfl, h2, h3⟩ := h
  refine ⟨ls, ?_, h2, h3⟩
  rw [q_nLst, Rs.bind_ok, if_pos (by rw [List.length_map, sizeLine_eq]; omega)]
  rfl
theorem bl_add {a b : Rs D} {j k m n : Nat} (ha : BL a j m) (hb : BL b k n) (h : j + k ≤ 1000 := by decide) : BL (e2 dAdd a b) (j + k) (max m n) := by
  obtain ⟨ls, rfl, h1, h2⟩ := ha
  obtain ⟨ms, rfl, h3, h4⟩ := hb
  refine ⟨ls ++ ms, ?_, by rw [List.length_append, h1, h3], fun l hl => ?_⟩
  · rw [q_e2, Rs.bind_ok, Rs.bind_ok, q_add_lst, if_pos (by rw [List.length_map, List.length_map, sizeLine_eq]; omega), ofO_some, List.map_append]
  · rcases List.mem_append.mp hl with hl | hl
    · have := h2 l hl
      omega
    · have := h4 l hl
      omega
theorem bt_of {r : Rs D} {t : Str} {n : Nat} (h : r = .ok (.str t)) (hn : t.length ≤ n) : BT r n := ⟨t, h, hn⟩
theorem bl_of {r : Rs D} {ls : List Str} {n : Nat} (h : r = .ok (.lst (ls.map .str))) (hn : ∀ l ∈ ls, l.length ≤ n) : BL r ls.length n := ⟨ls, h, rfl, hn⟩
theorem mul_str_nat : ∀ n : Nat, n < 41 → (MulOk "." (n : Int) ∧ MulOk "-" (n : Int) ∧ MulOk "1" (n : Int)) ∧ (Txt.mul "." (n : Int)).length = n ∧ (Txt.mul "-" (n : Int)).length = n ∧ (Txt.mul "1" (n : Int)).length = n := by decide +kernel
theorem bt_dots {r : Rs D} {n : Nat} (hr : r = .ok (.int (n : Nat))) (hn : n ≤ 30) : BT (e2 dMul (Rs.ok (.str ".")) r) 30 := by
  obtain ⟨⟨h1, _⟩, h2, _⟩ := mul_str_nat n (by omega)
  subst hr
  refine ⟨Txt.mul "." (n : Int), ?_, by omega⟩
  rw [q_e2, Rs.bind_ok, Rs.bind_ok, q_mul_str, if_pos h1, ofO_some]
theorem bt_dashes {r : Rs D} {n : Nat} (hr : r = .ok (.int (n : Nat))) (hn : n ≤ 30) : BT (e2 dMul (Rs.ok (.str "-")) r) 30 := by
  obtain ⟨⟨_, h1, _⟩, _, h2, _⟩ := mul_str_nat n (by omega)
  subst hr
  refine ⟨Txt.mul "-" (n : Int), ?_, by omega⟩
  rw [q_e2, Rs.bind_ok, Rs.bind_ok, q_mul_str, if_pos h1, ofO_some]
theorem bt_ones : BT (e2 dMul (Rs.ok (.str "1")) (Rs.ok (.int 40))) 40 := by
  obtain ⟨⟨_, _, h1⟩, _, _, h2⟩ := mul_str_nat 40 (by omega)
  refine ⟨Txt.mul "1" (40 : Nat), ?_, by omega⟩
  have h1 : MulOk "1" 40 := h1
  rw [q_e2, Rs.bind_ok, Rs.bind_ok, q_mul_str, if_pos h1, ofO_some]
  rfl
theorem str_small : ∀ n : Nat, n < 1000 → (toString (n : Int) : Str).length ≤ 10 ∧ (n : Int).natAbs.log2 < 1920 := by decide +kernel
theorem bt_str {r : Rs D} {n : Nat} (hr : r = .ok (.int (n : Nat))) (hn : n < 1000) : BT (eCb cStr (aCons r (Rs.ok []))) 10 := by
  obtain ⟨h1, h2⟩ := str_small n hn
  subst hr
  refine ⟨toString (n : Int), ?_, h1⟩
  have hcs : cStr [.int (n : Nat)] = some (.str (toString (n : Int))) := by
    show (if (n : Int).natAbs.log2 < 1920 then some (D.str (toString (n : Int))) else none) = _
    rw [if_pos h2]
  rw [q_aCons, Rs.bind_ok, Rs.bind_ok, q_eCb, Rs.bind_ok, hcs, ofO_some]
theorem firsts_is {n : Nat} (hn : n ≤ 30) : ∃ ls : List Str, m__law_firsts c [.int (n : Nat)] = .ok (.lst (ls.map .str)) ∧ 1 ≤ ls.length ∧ ∀ l ∈ ls, l.length ≤ 200 := by
  unfold m__law_firsts fnD mm__law_firsts
  have s0 : startX 2 [.int (n : Nat)] = ⟨[some (.dat (.int (n : Nat))), none], []⟩ := rfl
  rw [if_pos (by rfl), s0]
  obtain ⟨l1, e1, k1, b1⟩ : BL (((nLst (aCons (Rs.ok (.str "stock 0")) (aCons (Rs.ok (.str "stock 31")) (aCons (Rs.ok (.str "stock 03")) (aCons (Rs.ok (.str "stock")) (aCons (Rs.ok (.str "stock ")) (aCons (Rs.ok (.str "Stock 3")) (aCons (Rs.ok (.str "stock -3")) (aCons (Rs.ok (.str "stock +3")) (aCons (Rs.ok (.str "stock 3.0")) (Rs.ok [])))))))))))).bind noD) 9 20 := by
    refine bl_lst ?_
    repeat (first | exact ba_nil | refine ba_cons (m := 20) bt_lit ?_)
  rw [seq_nx (set_is (by rw [q_xB, e1, Rs.bind_ok]))]
  obtain ⟨l2, e2, k2, b2⟩ : BL (e2 dAdd (Rs.ok (.lst (l1.map .str))) (((nLst (aCons (Rs.ok (.str "stock  3")) (aCons (Rs.ok (.str " stock 3")) (aCons (Rs.ok (.str "stocks 3")) (aCons (e2 dAdd (Rs.ok (.str "stock ")) (e2 dMul (Rs.ok (.str "1")) (Rs.ok (.int 40)))) (aCons (Rs.ok (.str "stock 3 3")) (aCons (Rs.ok (.str "")) (aCons (Rs.ok (.str "stock three")) (Rs.ok [])))))))))).bind noD)) (l1.length + 7) (max 20 60) := by
    refine bl_add (bl_of rfl b1) (bl_lst ?_) (by omega)
    repeat (first | exact ba_nil | refine ba_cons (m := 20) bt_lit ?_ | refine ba_cons (bt_add (bt_lit (n := 20)) bt_ones) ?_)
  rw [seq_nx (set_is (by rw [q_xB]; exact (congrArg (fun r : Rs D => r.bind fun d => Rs.ok (Xv.dat d)) e2).trans rfl))]
  obtain ⟨l3, e3, k3, b3⟩ : BL (DL.e2 dAdd (Rs.ok (.lst (l2.map .str))) (((nLst (aCons (Rs.ok (.str "stock 30")) (aCons (Rs.ok (.str "stock 1")) (aCons (DL.e2 dAdd (DL.e2 dAdd (Rs.ok (.str "stock ")) (eCb cStr (aCons (Rs.ok (.int (n : Nat))) (Rs.ok [])))) (Rs.ok (.str " "))) (aCons (DL.e2 dAdd (Rs.ok (.str "box ")) (eCb cStr (aCons (Rs.ok (.int (n : Nat))) (Rs.ok [])))) (Rs.ok []))))))).bind noD)) (l2.length + 4) (max (max 20 60) 60) := by
    have hs : BT (eCb cStr (aCons (Rs.ok (.int (n : Nat))) (Rs.ok []))) 10 := bt_str rfl (by omega)
    refine bl_add (bl_of rfl b2) (bl_lst ?_) (by omega)
    repeat (first | exact ba_nil | refine ba_cons (m := 20) bt_lit ?_ | refine ba_cons (bt_add (bt_add (bt_lit (n := 20)) hs) (bt_lit (n := 20))) ?_ | refine ba_cons (bt_add (bt_lit (n := 20)) hs) ?_)
  rw [seq_nx (set_is (by rw [q_xB]; exact (congrArg (fun r : Rs D => r.bind fun d => Rs.ok (Xv.dat d)) e3).trans rfl))]
  obtain ⟨l4, e4, k4, b4⟩ : BL (DL.e2 dAdd (Rs.ok (.lst (l3.map .str))) (((nLst (aCons (DL.e2 dAdd (DL.e2 dAdd (DL.e2 dAdd (Rs.ok (.str "pair ")) (DL.e2 dMul (Rs.ok (.str ".")) (Rs.ok (.int (n : Nat))))) (Rs.ok (.str " "))) (DL.e2 dMul (Rs.ok (.str ".")) (Rs.ok (.int (n : Nat))))) (Rs.ok [])))).bind noD)) (l3.length + 1) (max (max (max 20 60) 60) 110) := by
    have hd : BT (DL.e2 dMul (Rs.ok (.str ".")) (Rs.ok (.int (n : Nat)))) 30 := bt_dots rfl hn
    refine bl_add (bl_of rfl b3) (bl_lst ?_) (by omega)
    repeat (first | exact ba_nil | refine ba_cons (bt_add (bt_add (bt_add (bt_lit (n := 20)) hd) (bt_lit (n := 20))) hd) ?_)
  refine ⟨l4, ?_, by omega, fun l hl => Nat.le_trans (b4 l hl) (by decide)⟩
  rw [ret_is (d := .lst (l4.map .str)) (by rw [q_rB]; exact e4)]
  rfl
end
end LK
set_option Elab.async false
set_option linter.all false
set_option maxRecDepth 100000
set_option maxHeartbeats 1000000
namespace LK
open PySem PySem.Spec PyProof.Rows L2 DL
set_option autoImplicit false
section
variable {c : Ad}
theorem upper_len (x : Str) : (Txt.upper x).length ≤ 3 * x.length := by
  exact PySem.StrLaws.placedRaw_le3 x.cps (fun _ c => Unicode.upperOf c) fun _ c => PySem.StrLaws.upperOf_le3 c
theorem bt_upper {t : Str} {n : Nat} (h : t.length ≤ n) (hn : n ≤ 1000 := by decide) : BT (eMb "str" mUpper (Rs.ok (.str t)) (Rs.ok [])) (3 * n) := by
  refine ⟨Txt.upper t, ?_, by have := upper_len t; omega⟩
  have : mUpper (.str t) [] = some (.str (Txt.upper t)) := by
    show (if t.length ≤ 5592405 then some (D.str (Txt.upper t)) else none) = _
    rw [if_pos (by omega)]
  rw [q_eMb, Rs.bind_ok, if_pos (q_isT_str t), Rs.bind_ok, this, ofO_some]
theorem further_is {n : Nat} (hn : n ≤ 30) (ts : List Str) : ∃ ls : List Str, m__law_further c [.int (n : Nat), .lst (ts.map .str)] = .ok (.lst (ls.map .str)) ∧ 1 ≤ ls.length ∧ ∀ l ∈ ls, l.length ≤ 200 := by
  obtain ⟨z, hz, hz2, _⟩ := fresh_is (c := c) "zz" ts
  have hzl : z.length ≤ 8 := by
    rcases hz2 with rfl | h
    · decide
    · exact isName_len h
  unfold m__law_further fnD mm__law_further
  have s0 : startX 5 [.int (n : Nat), .lst (ts.map .str)] = ⟨[some (.dat (.int (n : Nat))), some (.dat (.lst (ts.map .str))), none, none, none], []⟩ := rfl
  rw [if_pos (by rfl), s0]
  have w2 : sSet 2 (xB fun δ => ((aCons (Rs.ok (.str "zz")) (aCons (eVar 1 δ) (Rs.ok []))).bind (m__law_fresh c))) ⟨[some (.dat (.int (n : Nat))), some (.dat (.lst (ts.map .str))), none, none, none], []⟩ = .nx ⟨[some (.dat (.int (n : Nat))), some (.dat (.lst (ts.map .str))), some (.dat (.str z)), none, none], []⟩ := by
    simp -implicitDefEqProofs [hz]
  obtain ⟨d, hd, hdl⟩ : BT (DL.e2 dMul (Rs.ok (.str ".")) (Rs.ok (.int (n : Nat)))) 30 := bt_dots rfl hn
  have w3 : sSet 3 (xB fun δ => (e2 dMul (Rs.ok (.str ".")) (eVar 0 δ))) ⟨[some (.dat (.int (n : Nat))), some (.dat (.lst (ts.map .str))), some (.dat (.str z)), none, none], []⟩ = .nx ⟨[some (.dat (.int (n : Nat))), some (.dat (.lst (ts.map .str))), some (.dat (.str z)), some (.dat (.str d)), none], []⟩ := set_is (by
    rw [q_xB]
    exact (congrArg (fun r : Rs D => r.bind fun d => Rs.ok (Xv.dat d)) hd).trans rfl)
  rw [seq_nx w2, seq_nx w3]
  have bz : ∀ {δ : Dv}, eVar 2 δ = .ok (.str z) → BT (eVar 2 δ) 8 := fun h => bt_of h hzl
  have bz' : BT (Rs.ok (.str z)) 8 := bt_of rfl hzl
  have bd : BT (Rs.ok (.str d)) 30 := bt_of rfl hdl
  have bm : BT (DL.e2 dMul (Rs.ok (.str "-")) (Rs.ok (.int (n : Nat)))) 30 := bt_dashes rfl hn
  have bu := bt_upper hzl
  have bs : BT (eSl (Rs.ok (.str d)) (oPart (Rs.ok (.int 1))) (Rs.ok none)) 30 := bt_sl bd (l := some 1) rfl rfl
  obtain ⟨l1, e1, k1, b1⟩ : BL (((nLst (aCons (DL.e2 dAdd (DL.e2 dAdd (Rs.ok (.str z)) (Rs.ok (.str " "))) (Rs.ok (.str d))) (aCons (DL.e2 dAdd (DL.e2 dAdd (Rs.ok (.str z)) (Rs.ok (.str " "))) (DL.e2 dMul (Rs.ok (.str "-")) (Rs.ok (.int (n : Nat))))) (aCons (DL.e2 dAdd (DL.e2 dAdd (DL.e2 dAdd (Rs.ok (.str z)) (Rs.ok (.str " "))) (Rs.ok (.str d))) (Rs.ok (.str "."))) (aCons (DL.e2 dAdd (DL.e2 dAdd (Rs.ok (.str z)) (Rs.ok (.str " "))) (eSl (Rs.ok (.str d)) (oPart (Rs.ok (.int 1))) (Rs.ok none))) (aCons (Rs.ok (.str z)) (aCons (Rs.ok (.str "pair")) (Rs.ok []))))))))).bind noD) 6 60 := by
    refine bl_lst ?_
    refine ba_cons (bt_add (bt_add bz' (bt_lit (n := 5))) bd) ?_
    refine ba_cons (bt_add (bt_add bz' (bt_lit (n := 5))) bm) ?_
    refine ba_cons (bt_add (bt_add (bt_add bz' (bt_lit (n := 5))) bd) (bt_lit (n := 5))) ?_
    refine ba_cons (bt_add (bt_add bz' (bt_lit (n := 5))) bs) ?_
    exact ba_cons bz' (ba_cons (bt_lit (n := 5)) ba_nil)
  rw [seq_nx (set_is (by rw [q_xB]; exact (congrArg (fun r : Rs D => r.bind fun d => Rs.ok (Xv.dat d)) e1).trans rfl))]
  obtain ⟨l2, e2, k2, b2⟩ : BL (DL.e2 dAdd (Rs.ok (.lst (l1.map .str))) (((nLst (aCons (DL.e2 dAdd (DL.e2 dAdd (Rs.ok (.str z)) (Rs.ok (.str "  "))) (Rs.ok (.str d))) (aCons (DL.e2 dAdd (DL.e2 dAdd (eMb "str" mUpper (Rs.ok (.str z)) (Rs.ok [])) (Rs.ok (.str " "))) (Rs.ok (.str d))) (aCons (DL.e2 dAdd (DL.e2 dAdd (DL.e2 dAdd (Rs.ok (.str "1")) (Rs.ok (.str z))) (Rs.ok (.str " "))) (Rs.ok (.str d))) (aCons (DL.e2 dAdd (DL.e2 dAdd (DL.e2 dAdd (DL.e2 dAdd (Rs.ok (.str z)) (Rs.ok (.str " "))) (Rs.ok (.str d))) (Rs.ok (.str " "))) (Rs.ok (.str d))) (Rs.ok []))))))).bind noD)) (l1.length + 4) (max 60 90) := by
    refine bl_add (bl_of rfl b1) (bl_lst ?_) (by omega)
    refine ba_cons (bt_add (bt_add bz' (bt_lit (n := 5))) bd) ?_
    refine ba_cons (bt_add (bt_add bu (bt_lit (n := 5))) bd) ?_
    refine ba_cons (bt_add (bt_add (bt_add (bt_lit (n := 5)) bz') (bt_lit (n := 5))) bd) ?_
    exact ba_cons (bt_add (bt_add (bt_add (bt_add bz' (bt_lit (n := 5))) bd) (bt_lit (n := 5))) bd) ba_nil
  rw [seq_nx (set_is (by rw [q_xB]; exact (congrArg (fun r : Rs D => r.bind fun d => Rs.ok (Xv.dat d)) e2).trans rfl))]
  obtain ⟨l3, e3, k3, b3⟩ : BL (DL.e2 dAdd (Rs.ok (.lst (l2.map .str))) (((nLst (aCons (DL.e2 dAdd (DL.e2 dAdd (DL.e2 dAdd (Rs.ok (.str "pair ")) (Rs.ok (.str d))) (Rs.ok (.str " "))) (Rs.ok (.str d))) (aCons (DL.e2 dAdd (Rs.ok (.str "pair ")) (Rs.ok (.str d))) (aCons (DL.e2 dAdd (Rs.ok (.str "pair  ")) (Rs.ok (.str d))) (aCons (DL.e2 dAdd (DL.e2 dAdd (DL.e2 dAdd (DL.e2 dAdd (Rs.ok (.str "pair ")) (Rs.ok (.str d))) (Rs.ok (.str " "))) (Rs.ok (.str d))) (Rs.ok (.str "a"))) (Rs.ok []))))))).bind noD)) (l2.length + 4) (max (max 60 90) 90) := by
    refine bl_add (bl_of rfl b2) (bl_lst ?_) (by omega)
    refine ba_cons (bt_add (bt_add (bt_add (bt_lit (n := 9)) bd) (bt_lit (n := 5))) bd) ?_
    refine ba_cons (bt_add (bt_lit (n := 9)) bd) ?_
    refine ba_cons (bt_add (bt_lit (n := 9)) bd) ?_
    exact ba_cons (bt_add (bt_add (bt_add (bt_add (bt_lit (n := 9)) bd) (bt_lit (n := 5))) bd) (bt_lit (n := 5))) ba_nil
  rw [seq_nx (set_is (by rw [q_xB]; exact (congrArg (fun r : Rs D => r.bind fun d => Rs.ok (Xv.dat d)) e3).trans rfl))]
  obtain ⟨l4, e4, k4, b4⟩ : BL (DL.e2 dAdd (Rs.ok (.lst (l3.map .str))) (((nLst (aCons (DL.e2 dAdd (DL.e2 dAdd (DL.e2 dAdd (Rs.ok (.str "Pair ")) (Rs.ok (.str d))) (Rs.ok (.str " "))) (Rs.ok (.str d))) (aCons (DL.e2 dAdd (DL.e2 dAdd (DL.e2 dAdd (Rs.ok (.str "pair ")) (DL.e2 dMul (Rs.ok (.str "-")) (Rs.ok (.int (n : Nat))))) (Rs.ok (.str " "))) (Rs.ok (.str d))) (Rs.ok []))))).bind noD)) (l3.length + 2) (max (max (max 60 90) 90) 90) := by
    refine bl_add (bl_of rfl b3) (bl_lst ?_) (by omega)
    refine ba_cons (bt_add (bt_add (bt_add (bt_lit (n := 9)) bd) (bt_lit (n := 5))) bd) ?_
    exact ba_cons (bt_add (bt_add (bt_add (bt_lit (n := 9)) bm) (bt_lit (n := 5))) bd) ba_nil
  refine ⟨l4, ?_, by omega, fun l hl => Nat.le_trans (b4 l hl) (by decide)⟩
  rw [ret_is (d := .lst (l4.map .str)) (by rw [q_rB]; exact e4)]
  rfl
end
end LK
set_option Elab.async false
set_option linter.all false
set_option maxRecDepth 100000
set_option maxHeartbeats 1000000
namespace LK
open PySem PySem.Spec PyProof.Rows L2 DL
set_option autoImplicit false
section
variable {c : Ad}
/-! ### the lines of a stock, perhaps with more of them -/
def stF (n : Nat) (st : Tps) (many : Int) (x5 x6 : Option Xv) (lines taken : List Str) : S :=
  ⟨[some (.dat (.int (n : Nat))), some (.dat (.lst (pairsD st))), some (.dat (.int many)), some (.cell 0), some (.cell 1), x5, x6, none], [some (.lst ((lines.map D.str).map .dat)), some (.lst ((taken.map D.str).map .dat))]⟩
theorem full_turn {n j : Nat} {st : Tps} {many : Int} {x5 x6 : Option Xv} {lines taken : List Str} (hn0 : 1 ≤ n) (hn : n ≤ 30) (hj : j ≤ 30) (h1 : lines.length ≤ 1000) (h2 : taken.length ≤ 1000) :
    ∃ a l y6, l.length ≤ 60 ∧ lb__law_full_1 c (stF n st many (some (.dat (.int (j : Nat)))) x6 lines taken) = .nx (stF n st many (some (.dat (.int (j : Nat)))) y6 (lines ++ [l]) (taken ++ [a])) := by
  obtain ⟨m, hm, hml⟩ : BT (DL.e2 dAdd (Rs.ok (.str "m")) (eCb cStr (aCons (Rs.ok (.int (j : Nat))) (Rs.ok [])))) 15 := bt_add (bt_lit (n := 5)) (bt_str rfl (by omega))
  obtain ⟨a, ha, ha2, _⟩ := fresh_is (c := c) m taken
  have hal : a.length ≤ 15 := by
    rcases ha2 with rfl | h
    · exact hml
    · have := isName_len h
      omega
  have hsub : DL.e2 dSub (Rs.ok (.int (n : Nat))) (Rs.ok (.int 1)) = .ok (.int ((n - 1 : Nat) : Int)) := by
    rw [q_e2, Rs.bind_ok, Rs.bind_ok, q_sub_int, ofO_some]
    congr 2
    omega
  obtain ⟨l, hl, hll⟩ : BT (DL.e2 dAdd (DL.e2 dAdd (DL.e2 dAdd (Rs.ok (.str a)) (Rs.ok (.str " "))) (DL.e2 dMul (Rs.ok (.str "-")) (DL.e2 dSub (Rs.ok (.int (n : Nat))) (Rs.ok (.int 1))))) (Rs.ok (.str "b"))) 60 :=
    bt_up (bt_add (bt_add (bt_add (bt_of rfl hal) (bt_lit (n := 5))) (bt_dashes hsub (by omega))) (bt_lit (n := 5)))
  refine ⟨a, l, some (.dat (.str a)), hll, ?_⟩
  have w6 : sSet 6 (xV fun δ => ((aCons (e2 dAdd (Rs.ok (.str "m")) (eCb cStr (aCons (eVar 5 δ) (Rs.ok [])))) (aCons (eVar 4 δ) (Rs.ok []))).bind (m__law_fresh c))) (stF n st many (some (.dat (.int (j : Nat)))) x6 lines taken) = .nx (stF n st many (some (.dat (.int (j : Nat)))) (some (.dat (.str a))) lines taken) := by
    have v5 : ∀ x6, eVar 5 (envV (stF n st many (some (.dat (.int (j : Nat)))) x6 lines taken)) = .ok (.int (j : Nat)) := fun _ => rfl
    have v4 : ∀ x6, eVar 4 (envV (stF n st many (some (.dat (.int (j : Nat)))) x6 lines taken)) = .ok (.lst (taken.map .str)) := fun _ => by
      unfold stF
      simp -implicitDefEqProofs only [q_envV, List.map_cons, q_eVarS, q_eVar0, Option.bind_some, q_view3, List.getElem?_cons_succ, List.getElem?_cons_zero, q_viewO_lst]
    refine set_is ?_
    rw [q_xV, v5, v4, hm]
    simp -implicitDefEqProofs only [q_aCons, Rs.bind_ok, ha, q_okOnly, q_flat_str]
  unfold lb__law_full_1
  rw [seq_nx w6]
  have w7 : sApp (xC 4) (xB fun δ => (eVar 6 δ)) (stF n st many (some (.dat (.int (j : Nat)))) (some (.dat (.str a))) lines taken) = .nx (stF n st many (some (.dat (.int (j : Nat)))) (some (.dat (.str a))) lines (taken ++ [a])) := by
    have : taken.length < 16777216 := by omega
    unfold stF
    simp -implicitDefEqProofs [-List.map_map, this, sizeLine_eq]
  rw [seq_nx w7]
  have hxb : xB (fun δ => (e2 dAdd (e2 dAdd (e2 dAdd (eVar 6 δ) (Rs.ok (.str " "))) (e2 dMul (Rs.ok (.str "-")) (e2 dSub (eVar 0 δ) (Rs.ok (.int 1))))) (Rs.ok (.str "b")))) (stF n st many (some (.dat (.int (j : Nat)))) (some (.dat (.str a))) lines (taken ++ [a])) = .ok (.dat (.str l)) := by
    rw [q_xB]
    exact (congrArg (fun r : Rs D => r.bind fun d => Rs.ok (Xv.dat d)) hl).trans rfl
  have hlt : lines.length < 16777216 := by omega
  rw [q_sApp]
  have hxc : xC 3 (stF n st many (some (.dat (.int (j : Nat)))) (some (.dat (.str a))) lines (taken ++ [a])) = .ok (.cell 0) := rfl
  rw [hxc, q_oX_ok, hxb]
  unfold stF
  simp -implicitDefEqProofs [-List.map_map, hlt, sizeLine_eq]
theorem full_lines1 (x0 x1 x2 x3 x4 x5 x6 x7 : Option D) {st : Tps} (hs : ∀ p ∈ st, p.1.length ≤ 8 ∧ p.2.length ≤ 30) : lcL (cN 7) cTrue (le__law_full_2 c) (wipeE [x0, x1, x2, x3, x4, x5, x6, x7] [7]) (pairsD st) = .ok ((st.map lineP).map .str) := by
  rw [List.map_map]
  refine lc_mapA st fun p hp => ?_
  obtain ⟨a1, a2⟩ := hs p hp
  have l1 : (" " : Str).length = 1 := by decide
  have k1 : p.1.length + 1 ≤ 16777216 := by omega
  have k2 : (p.1 ++ " ").length + p.2.length ≤ 16777216 := by
    rw [len_app, l1]
    omega
  simp -implicitDefEqProofs [le__law_full_2, wipeE, pairD, atI_zero, atI_one, sizeLine_eq, l1, k1, k2, lineP]
theorem full_names (x0 x1 x2 x3 x4 x5 x6 x7 : Option D) (st : Tps) : lcL (cN 7) cTrue (le__law_full_3 c) (wipeE [x0, x1, x2, x3, x4, x5, x6, x7] [7]) (pairsD st) = .ok ((st.map (·.1)).map .str) := by
  rw [List.map_map]
  exact lc_mapA st fun p _ => by simp -implicitDefEqProofs [le__law_full_3, wipeE, pairD, atI_zero]
theorem rg_int {i : Int} (h0 : -1000000 ≤ i) (h1 : i ≤ 1000000) : rgOk i = true := by
  unfold rgOk
  simp
  omega
theorem full_is {n : Nat} {st : Tps} {m : Nat} {many : Int} (h : OkStock (n : Nat) st m) (hm : m ≤ 24) (h0 : 0 ≤ many) (h1 : many ≤ 30) :
    ∃ ex : List Str, m__law_full c [.int (n : Nat), .lst (pairsD st), .int many] = .ok (.lst ((fstN n :: (st.map lineP ++ ex)).map .str)) ∧ ex.length = (many - (st.length : Int)).toNat ∧ ∀ l ∈ ex, l.length ≤ 60 := by
  have hlen := h.len
  have hn0 := h.n0
  have hn1 := h.n1
  obtain ⟨s', e, ex, tk, x5, x6, q1, q2, q3, rfl⟩ := forL_range (f := gN 5) (body := lb__law_full_1 c) (fun j s => ∃ (ex tk : List Str) (x5 x6 : Option Xv), ex.length = j ∧ (∀ l ∈ ex, l.length ≤ 60) ∧ tk.length = st.length + j ∧ s = stF n st many x5 x6 (fstN n :: (st.map lineP ++ ex)) tk) (many - (st.length : Int)).toNat (stF n st many none none (fstN n :: st.map lineP) (st.map (·.1))) (fun j s hj hs => by
    obtain ⟨ex, tk, x5, x6, q1, q2, q3, rfl⟩ := hs
    obtain ⟨a, l, y6, b1, b2⟩ := full_turn (c := c) (n := n) (j := j) (st := st) (many := many) (x5 := x5) (x6 := x6) (lines := fstN n :: (st.map lineP ++ ex)) (taken := tk) (by omega) (by omega) (by omega) (by simp; omega) (by omega)
    refine ⟨_, _, rfl, ?_, ex ++ [l], tk ++ [a], some (.dat (.int (j : Nat))), y6, by simp [q1], fun k hk => ?_, by simp [q3]; omega, rfl⟩
    · have e : S.put (stF n st many x5 x6 (fstN n :: (st.map lineP ++ ex)) tk) 5 (.dat (.int (j : Nat))) = stF n st many (some (.dat (.int (j : Nat)))) x6 (fstN n :: (st.map lineP ++ ex)) tk := rfl
      rw [e, b2, List.cons_append, List.append_assoc]
      rfl
    · rcases List.mem_append.mp hk with hk | hk
      · exact q2 k hk
      · rw [List.mem_singleton.mp hk]
        exact b1) ⟨[], st.map (·.1), none, none, rfl, (fun _ h => by cases h), by simp, by rw [List.append_nil]⟩
  refine ⟨ex, ?_, q1, q2⟩
  unfold m__law_full fnD mm__law_full
  have s0 : startX 8 [.int (n : Nat), .lst (pairsD st), .int many] = ⟨[some (.dat (.int (n : Nat))), some (.dat (.lst (pairsD st))), some (.dat (.int many)), none, none, none, none, none], []⟩ := rfl
  rw [if_pos (by rfl), s0]
  have hsh := lines_short h
  have hpl : (pairsD st).length ≤ 16777216 := by unfold pairsD; rw [List.length_map]; omega
  have hf1 := fun a0 a1 a2 a3 a4 a5 a6 a7 => full_lines1 (c := c) a0 a1 a2 a3 a4 a5 a6 a7 hsh
  have hf2 := fun a0 a1 a2 a3 a4 a5 a6 a7 => full_names (c := c) a0 a1 a2 a3 a4 a5 a6 a7 st
  have hfirst : DL.e2 dAdd (Rs.ok (.str "stock ")) (eCb cStr (aCons (Rs.ok (.int (n : Nat))) (Rs.ok []))) = .ok (.str (fstN n)) := by
    obtain ⟨b1, b2⟩ := num_ok h.n0 h.n1
    have hcs : cStr [.int (n : Nat)] = some (.str (toString (n : Int))) := by
      show (if (n : Int).natAbs.log2 < 1920 then some (D.str (toString (n : Int))) else none) = _
      rw [if_pos b2]
    have h6 : ("stock " : Str).length = 6 := by decide
    rw [q_aCons, Rs.bind_ok, Rs.bind_ok, q_eCb, Rs.bind_ok, hcs, ofO_some, q_e2, Rs.bind_ok, Rs.bind_ok, q_add_str, if_pos (by rw [h6, sizeLine_eq]; omega), ofO_some]
    rfl
  have h1l : 1 + (st.map lineP).length ≤ 16777216 := by rw [List.length_map]; omega
  have h1' : (1 : Nat) ≤ 16777216 := by omega
  have w3 : sNew 3 (nB fun δ => (nAdd (((nLst (aCons (e2 dAdd (Rs.ok (.str "stock ")) (eCb cStr (aCons (eVar 0 δ) (Rs.ok [])))) (Rs.ok [])))).bind noD) (((eLc [7] (cN 7) cTrue (le__law_full_2 c) δ (iItems (eVar 1 δ)))).bind noD))) ⟨[some (.dat (.int (n : Nat))), some (.dat (.lst (pairsD st))), some (.dat (.int many)), none, none, none, none, none], []⟩ = .nx ⟨[some (.dat (.int (n : Nat))), some (.dat (.lst (pairsD st))), some (.dat (.int many)), some (.cell 0), none, none, none, none], [some (.lst (((fstN n :: st.map lineP).map D.str).map .dat))]⟩ := by
    rw [q_sNew, q_nB]
    have v0 : eVar 0 (envB ⟨[some (.dat (.int (n : Nat))), some (.dat (.lst (pairsD st))), some (.dat (.int many)), none, none, none, none, none], []⟩) = .ok (.int (n : Nat)) := rfl
    rw [v0, hfirst]
    simp -implicitDefEqProofs only [nAdd, q_envB, List.map_cons, List.map_nil, Option.bind_some, Option.bind_none, q_baseX_dat, q_eVarS, q_eVar0, q_nLst, q_aCons, Rs.bind_ok, List.length_cons, List.length_nil, Nat.zero_add, sizeLine_eq, if_pos h1', q_noD_lst, q_eLc, q_iItems, q_items_lst, ofO_some, if_pos hpl, hf1, q_only_ok, List.length_map, q_oX_ok]
    rw [List.length_map] at h1l
    rw [if_pos h1l]
    simp -implicitDefEqProofs [-List.map_map]
  rw [seq_nx w3]
  have w4 : sNew 4 (nB fun δ => (eLc [7] (cN 7) cTrue (le__law_full_3 c) δ (iItems (eVar 1 δ)))) ⟨[some (.dat (.int (n : Nat))), some (.dat (.lst (pairsD st))), some (.dat (.int many)), some (.cell 0), none, none, none, none], [some (.lst (((fstN n :: st.map lineP).map D.str).map .dat))]⟩ = .nx (stF n st many none none (fstN n :: st.map lineP) (st.map (·.1))) := by
    unfold stF
    simp -implicitDefEqProofs only [q_sNew, q_nB, q_envB, List.map_cons, List.map_nil, Option.bind_some, Option.bind_none, q_baseX_dat, q_baseX_cell, q_eVarS, q_eVar0, q_eLc, q_iItems, Rs.bind_ok, q_items_lst, ofO_some, sizeLine_eq, if_pos hpl, hf2, q_only_ok, q_oX_ok, q_noO_lst]
    rfl
  rw [seq_nx w4]
  have hlp : lp__law_full_1 c (stF n st many none none (fstN n :: st.map lineP) (st.map (·.1))) = .nx (stF n st many x5 x6 (fstN n :: (st.map lineP ++ ex)) tk) := by
    unfold lp__law_full_1
    rw [q_sFor]
    have hit : (iRg rng1 (aCons (e2 dSub (eVar 2 (envB (stF n st many none none (fstN n :: st.map lineP) (st.map (·.1))))) (eCb cLen (aCons (eVar 1 (envB (stF n st many none none (fstN n :: st.map lineP) (st.map (·.1))))) (Rs.ok [])))) (Rs.ok []))) = .ok (DL.upTo 0 (many - (st.length : Int)).toNat) := by
      have v2 : eVar 2 (envB (stF n st many none none (fstN n :: st.map lineP) (st.map (·.1)))) = .ok (.int many) := rfl
      have v1 : eVar 1 (envB (stF n st many none none (fstN n :: st.map lineP) (st.map (·.1)))) = .ok (.lst (pairsD st)) := rfl
      have hpe : (pairsD st).length = st.length := by unfold pairsD; rw [List.length_map]
      rw [v1, v2]
      simp -implicitDefEqProofs only [q_aCons, Rs.bind_ok, q_eCb, q_cLen, q_len_lst, Option.map_some, ofO_some, q_e2, q_sub_int, q_iRg, hpe]
      rw [q_rng1, if_pos (rg_int (by omega) (by omega)), ofO_some]
    rw [hit]
    exact e
  rw [seq_nx hlp]
  generalize fstN n :: (st.map lineP ++ ex) = LL
  have f3 : sFrz 3 (stF n st many x5 x6 LL tk) = .nx ⟨[some (.dat (.int (n : Nat))), some (.dat (.lst (pairsD st))), some (.dat (.int many)), some (.dat (.lst (LL.map .str))), some (.cell 1), x5.map (subX 0 (.lst (LL.map .str))), x6.map (subX 0 (.lst (LL.map .str))), none], [none, some (.lst ((tk.map D.str).map .dat))]⟩ := by
    unfold stF
    rw [sFrz_lst (k := 0) (ds := LL.map .str) rfl rfl]
    simp -implicitDefEqProofs [-List.map_map, cutK, subO_lst]
  have f4 : sFrz 4 ⟨[some (.dat (.int (n : Nat))), some (.dat (.lst (pairsD st))), some (.dat (.int many)), some (.dat (.lst (LL.map .str))), some (.cell 1), x5.map (subX 0 (.lst (LL.map .str))), x6.map (subX 0 (.lst (LL.map .str))), none], [none, some (.lst ((tk.map D.str).map .dat))]⟩ = .nx ⟨[some (.dat (.int (n : Nat))), some (.dat (.lst (pairsD st))), some (.dat (.int many)), some (.dat (.lst (LL.map .str))), some (.dat (.lst (tk.map .str))), (x5.map (subX 0 (.lst (LL.map .str)))).map (subX 1 (.lst (tk.map .str))), (x6.map (subX 0 (.lst (LL.map .str)))).map (subX 1 (.lst (tk.map .str))), none], [none]⟩ := by
    rw [sFrz_lst (k := 1) (ds := tk.map .str) rfl rfl]
    simp -implicitDefEqProofs [-List.map_map, cutK]
  rw [seq_nx f3, seq_nx f4]
  simp -implicitDefEqProofs [-List.map_map]
end
end LK
set_option Elab.async false
set_option linter.all false
set_option maxRecDepth 100000
set_option maxHeartbeats 1000000
namespace LK
open PySem PySem.Spec PyProof.Rows L2 DL
set_option autoImplicit false
section
variable {c : Ad}
theorem OkStock.take7 {n : Int} {st : Tps} {m : Nat} (h : OkStock n st m) : OkStock n (st.take 7) 7 := by
  refine ⟨h.n0, h.n1, by rw [List.length_take]; omega, fun p hp => h.good p (List.mem_of_mem_take hp), ?_⟩
  have := h.fresh
  rw [← List.take_append_drop 7 st, fresh_app, Bool.and_eq_true] at this
  exact this.1
theorem tot_le {ls : List Str} {k : Nat} (h : ∀ l ∈ ls, l.length ≤ k) : tot ls ≤ ls.length * (k + 1) := by
  induction ls with
  | nil => exact Nat.zero_le _
  | cons l ls ih =>
    have h1 := h l (List.mem_cons_self ..)
    have h2 := ih fun x hx => h x (List.mem_cons_of_mem _ hx)
    unfold tot at h2 ⊢
    rw [List.map_cons, List.sum_cons, List.length_cons, Nat.succ_mul]
    omega
theorem fst_len {n : Nat} (hn : n ≤ 30) : (fstN (n : Nat)).length ≤ 16 := by
  have := (str_small n (by omega)).1
  unfold fstN
  rw [len_app]
  have h6 : ("stock " : Str).length = 6 := by decide
  omega
theorem line_len {p : Str × Str} (h : p.1.length ≤ 8 ∧ p.2.length ≤ 30) : (lineP p).length ≤ 39 := by
  unfold lineP
  rw [len_app, len_app]
  have h6 : (" " : Str).length = 1 := by decide
  omega
theorem pair_len {p : Str × Str} (h : p.1.length ≤ 30 ∧ p.2.length ≤ 30) : (linePr p).length ≤ 66 := by
  unfold linePr
  rw [len_app, len_app, len_app, len_app]
  have h6 : (" " : Str).length = 1 := by decide
  have h4 : ("pair" : Str).length = 4 := by decide
  omega
theorem slice_to (st : Tps) : dSl (.lst (pairsD st)) none (some 7) = some (.lst (pairsD (st.take 7))) := by
  show some (D.lst (DL.cutD (pairsD st) none (some 7))) = _
  unfold DL.cutD pairsD
  have := HT.sIx_nat (st.map (pairD true)).length (st.map (pairD true)).length 7
  rw [show ((7 : Nat) : Int) = 7 from rfl] at this
  rw [HT.sIx_none, this, List.drop_zero, Nat.sub_zero, ← List.map_take]
  congr 3
  rw [List.length_map]
  by_cases h : 7 ≤ st.length
  · rw [show min 7 st.length = 7 by omega]
  · rw [show min 7 st.length = st.length by omega, List.take_length, List.take_of_length_le (by omega)]
theorem note_pair1 (x0 x1 x2 x3 x4 x5 x6 x7 x8 x9 x10 : Option D) {ps : Tps} (hs : ∀ p ∈ ps, p.1.length ≤ 30 ∧ p.2.length ≤ 30) : lcL (cN 9) cTrue (le__law_notes_1 c) (wipeE [x0, x1, x2, x3, x4, x5, x6, x7, x8, x9, x10] [9]) (pairsD ps) = .ok ((ps.map linePr).map .str) := by
  rw [List.map_map]
  refine lc_mapA ps fun p hp => ?_
  obtain ⟨a1, a2⟩ := hs p hp
  have l1 : (" " : Str).length = 1 := by decide
  have l5 : ("pair " : Str).length = 5 := by decide
  have k0 : 5 + p.1.length ≤ 16777216 := by omega
  have k1 : (("pair " : Str) ++ p.1).length + 1 ≤ 16777216 := by
    rw [len_app, l5]
    omega
  have k2 : (("pair " : Str) ++ p.1 ++ " ").length + p.2.length ≤ 16777216 := by
    rw [len_app, len_app, l5, l1]
    omega
  have hpp : ("pair" : Str) ++ " " = "pair " := by decide
  simp -implicitDefEqProofs [le__law_notes_1, wipeE, pairD, atI_zero, atI_one, sizeLine_eq, l1, l5, k0, k1, k2, linePr, hpp]
theorem note_pair2 (x0 x1 x2 x3 x4 x5 x6 x7 x8 x9 x10 : Option D) {ps : Tps} (hs : ∀ p ∈ ps, p.1.length ≤ 30 ∧ p.2.length ≤ 30) : lcL (cN 9) cTrue (le__law_notes_2 c) (wipeE [x0, x1, x2, x3, x4, x5, x6, x7, x8, x9, x10] [9]) (pairsD ps) = .ok ((ps.map linePr).map .str) := note_pair1 (c := c) x0 x1 x2 x3 x4 x5 x6 x7 x8 x9 x10 hs
theorem lc_exS {i : Nat} {e : Dv → Rs D} {δ : Dv} {m : Nat} : ∀ (n : Nat) (lo : Nat), (∀ k : Nat, lo ≤ k → k < lo + n → BT (e (δ.set i (some (.int (k : Nat))))) m) → ∃ xs : List Str, lcL (cN i) cTrue e δ (DL.upTo (lo : Nat) n) = .ok (xs.map .str) ∧ xs.length = n ∧ ∀ x ∈ xs, x.length ≤ m
  | 0, lo, _ => ⟨[], rfl, rfl, fun x h => by cases h⟩
  | n + 1, lo, h => by
    obtain ⟨x, ex, hx⟩ := h lo (Nat.le_refl _) (by omega)
    obtain ⟨xs, h1, h2, h3⟩ := lc_exS n (lo + 1) fun k a b => h k (by omega) (by omega)
    refine ⟨x :: xs, ?_, by rw [List.length_cons, h2], fun y hy => ?_⟩
    · rw [upTo_cons]
      unfold lcL
      have e3 : ((lo : Nat) : Int) + 1 = ((lo + 1 : Nat) : Int) := by omega
      rw [e3]
      simp only [cN, cTrue, Rs.only_ok, if_true, ex, h1, List.map_cons]
    · rcases List.mem_cons.mp hy with rfl | hy
      · exact hx
      · exact h3 y hy
def txtA (n : Int) (st : Tps) : Str := Str.join "\n" (fstN n :: st.map lineP)
def txtB (n : Int) (st ps : Tps) : Str := Str.join "\n" (fstN n :: ((st.take 7).map lineP ++ ps.map linePr))
theorem notes_is {n : Nat} {st ps : Tps} {d0 d1 d2 : Int} (h : OkStock (n : Nat) st 24) (hp : ps.length ≤ 4) (hps : ∀ p ∈ ps, p.1.length ≤ 30 ∧ p.2.length ≤ 30) (h0 : 0 ≤ d0 ∧ d0 < 3) (h1 : 0 ≤ d1 ∧ d1 < 3) (h2 : 0 ≤ d2 ∧ d2 < 2) :
    ∃ C E : Str, m__law_notes c [.int (n : Nat), .lst (pairsD st), .lst (pairsD ps), .lst [.int d0, .int d1, .int d2]] = .ok (.lst [.lst [.str (txtA n st), .str (txtB n st ps)], .lst [.str C, .str E]]) ∧ (txtA n st).length ≤ 1000 ∧ (txtB n st ps).length ≤ 1000 ∧ C.length ≤ 10000 ∧ E.length ≤ 10000 := by
  have hn1 := h.n1
  have hlen := h.len
  have h7 := h.take7
  have hl7 := h7.len
  obtain ⟨k, hk⟩ : ∃ k : Int, k = 7 + (if d0 == 0 then 1 else 0) := ⟨_, rfl⟩
  have hk2 : 7 ≤ k ∧ k ≤ 8 := by
    rw [hk]
    split <;> omega
  obtain ⟨x1, f1, g1, _⟩ := full_is (c := c) (many := 0) h (by omega) (by omega) (by omega)
  obtain ⟨x2, f2, g2, _⟩ := full_is (c := c) (many := 0) h7 (by omega) (by omega) (by omega)
  obtain ⟨x3, f3, g3, m3⟩ := full_is (c := c) (many := k) h7 (by omega) (by omega) (by omega)
  obtain ⟨x4, f4, g4, m4⟩ := full_is (c := c) (many := 24 + d2) h (by omega) (by omega) (by omega)
  have hx1 : x1 = [] := List.length_eq_zero_iff.mp (by rw [g1]; omega)
  have hx2 : x2 = [] := List.length_eq_zero_iff.mp (by rw [g2]; omega)
  subst hx1 hx2
  rw [List.append_nil] at f1 f2
  have hsl := slice_to st
  have hpl : (pairsD ps).length ≤ 16777216 := by unfold pairsD; rw [List.length_map]; omega
  have hc1 := fun a0 a1 a2 a3 a4 a5 a6 a7 a8 a9 a10 => note_pair1 (c := c) a0 a1 a2 a3 a4 a5 a6 a7 a8 a9 a10 hps
  have hc2 := fun a0 a1 a2 a3 a4 a5 a6 a7 a8 a9 a10 => note_pair2 (c := c) a0 a1 a2 a3 a4 a5 a6 a7 a8 a9 a10 hps
  unfold m__law_notes fnD mm__law_notes
  have s0 : startX 11 [.int (n : Nat), .lst (pairsD st), .lst (pairsD ps), .lst [.int d0, .int d1, .int d2]] = ⟨[some (.dat (.int (n : Nat))), some (.dat (.lst (pairsD st))), some (.dat (.lst (pairsD ps))), some (.dat (.lst [.int d0, .int d1, .int d2])), none, none, none, none, none, none, none], []⟩ := rfl
  rw [if_pos (by rfl), s0]
  generalize hL1 : fstN (n : Nat) :: st.map lineP = L1 at f1
  generalize hL2 : fstN (n : Nat) :: (st.take 7).map lineP = L2 at f2
  generalize hL3 : fstN (n : Nat) :: ((st.take 7).map lineP ++ x3) = L3 at f3
  generalize hL4 : fstN (n : Nat) :: (st.map lineP ++ x4) = L4 at f4
  have lL1 : L1.length = st.length + 1 := by rw [← hL1]; simp
  have lL2 : L2.length = min 7 st.length + 1 := by rw [← hL2]; simp
  have lL3 : L3.length ≤ 30 := by rw [← hL3]; simp; omega
  have lL4 : L4.length ≤ 60 := by rw [← hL4]; simp; omega
  have w4 : sSet 4 (xB fun δ => ((aCons (eVar 0 δ) (aCons (eVar 1 δ) (aCons (Rs.ok (.int 0)) (Rs.ok [])))).bind (m__law_full c))) ⟨[some (.dat (.int (n : Nat))), some (.dat (.lst (pairsD st))), some (.dat (.lst (pairsD ps))), some (.dat (.lst [.int d0, .int d1, .int d2])), none, none, none, none, none, none, none], []⟩ = .nx ⟨[some (.dat (.int (n : Nat))), some (.dat (.lst (pairsD st))), some (.dat (.lst (pairsD ps))), some (.dat (.lst [.int d0, .int d1, .int d2])), some (.dat (.lst (L1.map .str))), none, none, none, none, none, none], []⟩ := by
    simp -implicitDefEqProofs [-List.map_map, f1]
  rw [seq_nx w4]
  have k5 : L2.length + ps.length ≤ 16777216 := by omega
  have w5 : sSet 5 (xB fun δ => (e2 dAdd ((aCons (eVar 0 δ) (aCons (eSl (eVar 1 δ) (Rs.ok none) (oPart (Rs.ok (.int 7)))) (aCons (Rs.ok (.int 0)) (Rs.ok [])))).bind (m__law_full c)) (((eLc [9] (cN 9) cTrue (le__law_notes_1 c) δ (iItems (eVar 2 δ)))).bind noD))) ⟨[some (.dat (.int (n : Nat))), some (.dat (.lst (pairsD st))), some (.dat (.lst (pairsD ps))), some (.dat (.lst [.int d0, .int d1, .int d2])), some (.dat (.lst (L1.map .str))), none, none, none, none, none, none], []⟩ = .nx ⟨[some (.dat (.int (n : Nat))), some (.dat (.lst (pairsD st))), some (.dat (.lst (pairsD ps))), some (.dat (.lst [.int d0, .int d1, .int d2])), some (.dat (.lst (L1.map .str))), some (.dat (.lst ((L2 ++ ps.map linePr).map .str))), none, none, none, none, none], []⟩ := by
    simp -implicitDefEqProofs [-List.map_map, hsl, f2, q_eLc, hpl, sizeLine_eq, hc1, k5]
  rw [seq_nx w5]
  obtain ⟨tl, htl, htl2⟩ : BT (DL.e2 dAdd (DL.e2 dAdd (DL.e2 dAdd (Rs.ok (.str "pair ")) (DL.e2 dMul (Rs.ok (.str ".")) (Rs.ok (.int (n : Nat))))) (Rs.ok (.str " "))) (DL.e2 dMul (Rs.ok (.str "-")) (Rs.ok (.int (n : Nat))))) 100 := bt_up (bt_add (bt_add (bt_add (bt_lit (n := 9)) (bt_dots rfl (by omega))) (bt_lit (n := 5))) (bt_dashes rfl (by omega)))
  have k6 : ps.length + 1 ≤ 16777216 := by omega
  have k1' : (1 : Nat) ≤ 16777216 := by omega
  have w6 : sSet 6 (xB fun δ => (e2 dAdd (((eLc [9] (cN 9) cTrue (le__law_notes_2 c) δ (iItems (eVar 2 δ)))).bind noD) (((nLst (aCons (e2 dAdd (e2 dAdd (e2 dAdd (Rs.ok (.str "pair ")) (e2 dMul (Rs.ok (.str ".")) (eVar 0 δ))) (Rs.ok (.str " "))) (e2 dMul (Rs.ok (.str "-")) (eVar 0 δ))) (Rs.ok [])))).bind noD))) ⟨[some (.dat (.int (n : Nat))), some (.dat (.lst (pairsD st))), some (.dat (.lst (pairsD ps))), some (.dat (.lst [.int d0, .int d1, .int d2])), some (.dat (.lst (L1.map .str))), some (.dat (.lst ((L2 ++ ps.map linePr).map .str))), none, none, none, none, none], []⟩ = .nx ⟨[some (.dat (.int (n : Nat))), some (.dat (.lst (pairsD st))), some (.dat (.lst (pairsD ps))), some (.dat (.lst [.int d0, .int d1, .int d2])), some (.dat (.lst (L1.map .str))), some (.dat (.lst ((L2 ++ ps.map linePr).map .str))), some (.dat (.lst ((ps.map linePr ++ [tl]).map .str))), none, none, none, none], []⟩ := by
    have v0 : ∀ a b d e f g, eVar 0 (envB ⟨[some (.dat (.int (n : Nat))), some (.dat a), some (.dat b), some (.dat d), some (.dat e), some (.dat f), none, none, none, none, g], []⟩) = .ok (.int (n : Nat)) := fun _ _ _ _ _ _ => rfl
    rw [q_sSet, q_xB, v0, htl]
    simp -implicitDefEqProofs [-List.map_map, q_eLc, hpl, sizeLine_eq, hc2, k6]
  rw [seq_nx w6]
  have hrl : rgOk (3 + d1) = true := rg_int (by omega) (by omega)
  obtain ⟨x7, e7, l7, b7⟩ := lc_exS (i := 10) (e := le__law_notes_3 c) (m := 200) (δ := wipeE [some (.int (n : Nat)), some (.lst (pairsD st)), some (.lst (pairsD ps)), some (.lst [.int d0, .int d1, .int d2]), some (.lst (L1.map .str)), some (.lst ((L2 ++ ps.map linePr).map .str)), some (.lst ((ps.map linePr ++ [tl]).map .str)), none, none, none, none] [10]) (3 + d1).toNat 0 fun k _ hk => by
    have hp1 : (0 : Int) < ((ps.map linePr ++ [tl]).length : Int) := by simp
    obtain ⟨l, hl, hm⟩ := at_dd (ls := ps.map linePr ++ [tl]) (i := (k : Int) % ((ps.map linePr ++ [tl]).length : Int)) (Int.emod_nonneg _ (by omega)) (Int.emod_lt_of_pos _ hp1)
    refine ⟨l, ?_, ?_⟩
    · unfold le__law_notes_3
      generalize ps.map linePr ++ [tl] = TT at *
      have hp2 : 0 < TT.length := by omega
      simp -implicitDefEqProofs [-List.map_map, wipeE, hl, hp2]
    · rcases List.mem_append.mp hm with hm | hm
      · obtain ⟨p, hp, rfl⟩ := List.mem_map.mp hm
        have := pair_len (hps p hp)
        omega
      · rw [List.mem_singleton.mp hm]
        omega
  have hul : (DL.upTo 0 (3 + d1).toNat).length ≤ 16777216 := by rw [← upTo_len]; omega
  have k7 : L3.length + x7.length ≤ 16777216 := by omega
  have e7 : lcL (cN 10) cTrue (le__law_notes_3 c) (wipeE [some (.int (n : Nat)), some (.lst (pairsD st)), some (.lst (pairsD ps)), some (.lst [.int d0, .int d1, .int d2]), some (.lst (L1.map .str)), some (.lst ((L2 ++ ps.map linePr).map .str)), some (.lst ((ps.map linePr ++ [tl]).map .str)), none, none, none, none] [10]) (DL.upTo 0 (3 + d1).toNat) = .ok (x7.map .str) := e7
  have hk' : (7 : Int) + (if d0 == 0 then 1 else 0) = k := hk.symm
  have ixa : atI [D.int d0, D.int d1, D.int d2] 0 = some (.int d0) := rfl
  have ixb : atI [D.int d0, D.int d1, D.int d2] 1 = some (.int d1) := rfl
  have ixc : atI [D.int d0, D.int d1, D.int d2] 2 = some (.int d2) := rfl
  have w7 : sSet 7 (xB fun δ => (e2 dAdd ((aCons (eVar 0 δ) (aCons (eSl (eVar 1 δ) (Rs.ok none) (oPart (Rs.ok (.int 7)))) (aCons (e2 dAdd (Rs.ok (.int 7)) (eCb cInt (aCons (e2 dEq (e2 dIx (eVar 3 δ) (Rs.ok (.int 0))) (Rs.ok (.int 0))) (Rs.ok [])))) (Rs.ok [])))).bind (m__law_full c)) (((eLc [10] (cN 10) cTrue (le__law_notes_3 c) δ (iRg rng1 (aCons (e2 dAdd (Rs.ok (.int 3)) (e2 dIx (eVar 3 δ) (Rs.ok (.int 1)))) (Rs.ok []))))).bind noD))) ⟨[some (.dat (.int (n : Nat))), some (.dat (.lst (pairsD st))), some (.dat (.lst (pairsD ps))), some (.dat (.lst [.int d0, .int d1, .int d2])), some (.dat (.lst (L1.map .str))), some (.dat (.lst ((L2 ++ ps.map linePr).map .str))), some (.dat (.lst ((ps.map linePr ++ [tl]).map .str))), none, none, none, none], []⟩ = .nx ⟨[some (.dat (.int (n : Nat))), some (.dat (.lst (pairsD st))), some (.dat (.lst (pairsD ps))), some (.dat (.lst [.int d0, .int d1, .int d2])), some (.dat (.lst (L1.map .str))), some (.dat (.lst ((L2 ++ ps.map linePr).map .str))), some (.dat (.lst ((ps.map linePr ++ [tl]).map .str))), some (.dat (.lst ((L3 ++ x7).map .str))), none, none, none], []⟩ := by
    generalize (ps.map linePr ++ [tl]).map D.str = TT at *
    generalize (L2 ++ ps.map linePr).map D.str = UU at *
    simp -implicitDefEqProofs only [q_sSet, q_xB, q_envB, List.map_cons, List.map_nil, Option.bind_some, Option.bind_none, q_baseX_dat, q_e2, q_aCons, q_eVar0, q_eVarS, q_eSl, q_oPart, Rs.bind_ok, hsl, ofO_some, q_ix_lst, ixa, ixb, q_eq_int, q_eCb, q_cInt_bl, q_add_int, hk', f3, q_eLc, q_iRg, q_rng1, if_pos hrl, sizeLine_eq, if_pos hul, e7, q_only_ok, q_noD_lst, q_add_lst, List.length_map, if_pos k7, q_oX_ok, q_put, List.set_cons_succ, List.set_cons_zero, List.map_append]
  rw [seq_nx w7]
  have w8 : sSet 8 (xB fun δ => ((aCons (eVar 0 δ) (aCons (eVar 1 δ) (aCons (e2 dAdd (Rs.ok (.int 24)) (e2 dIx (eVar 3 δ) (Rs.ok (.int 2)))) (Rs.ok [])))).bind (m__law_full c))) ⟨[some (.dat (.int (n : Nat))), some (.dat (.lst (pairsD st))), some (.dat (.lst (pairsD ps))), some (.dat (.lst [.int d0, .int d1, .int d2])), some (.dat (.lst (L1.map .str))), some (.dat (.lst ((L2 ++ ps.map linePr).map .str))), some (.dat (.lst ((ps.map linePr ++ [tl]).map .str))), some (.dat (.lst ((L3 ++ x7).map .str))), none, none, none], []⟩ = .nx ⟨[some (.dat (.int (n : Nat))), some (.dat (.lst (pairsD st))), some (.dat (.lst (pairsD ps))), some (.dat (.lst [.int d0, .int d1, .int d2])), some (.dat (.lst (L1.map .str))), some (.dat (.lst ((L2 ++ ps.map linePr).map .str))), some (.dat (.lst ((ps.map linePr ++ [tl]).map .str))), some (.dat (.lst ((L3 ++ x7).map .str))), some (.dat (.lst (L4.map .str))), none, none], []⟩ := by
    simp -implicitDefEqProofs [-List.map_map, ixc, f4]
  rw [seq_nx w8]
  have hsh := lines_short h
  have bA : ∀ l ∈ L1, l.length ≤ 39 := by
    rw [← hL1]
    intro l hl
    rcases List.mem_cons.mp hl with rfl | hl
    · have := fst_len (n := n) (by omega)
      omega
    · obtain ⟨p, hp, rfl⟩ := List.mem_map.mp hl
      exact line_len (hsh p hp)
  have bT : ∀ l ∈ (st.take 7).map lineP, l.length ≤ 66 := fun l hl => by
    obtain ⟨p, hp, rfl⟩ := List.mem_map.mp hl
    have := line_len (hsh p (List.mem_of_mem_take hp))
    omega
  have bP : ∀ l ∈ ps.map linePr, l.length ≤ 66 := fun l hl => by
    obtain ⟨p, hp, rfl⟩ := List.mem_map.mp hl
    exact pair_len (hps p hp)
  have bB : ∀ l ∈ L2 ++ ps.map linePr, l.length ≤ 66 := by
    rw [← hL2]
    intro l hl
    rcases List.mem_append.mp hl with hl | hl
    · rcases List.mem_cons.mp hl with rfl | hl
      · have := fst_len (n := n) (by omega)
        omega
      · exact bT l hl
    · exact bP l hl
  have bC : ∀ l ∈ L4, l.length ≤ 100 := by
    rw [← hL4]
    intro l hl
    rcases List.mem_cons.mp hl with rfl | hl
    · have := fst_len (n := n) (by omega)
      omega
    · rcases List.mem_append.mp hl with hl | hl
      · obtain ⟨p, hp, rfl⟩ := List.mem_map.mp hl
        have := line_len (hsh p hp)
        omega
      · have := m4 l hl
        omega
  have bE : ∀ l ∈ L3 ++ x7, l.length ≤ 200 := by
    rw [← hL3]
    intro l hl
    rcases List.mem_append.mp hl with hl | hl
    · rcases List.mem_cons.mp hl with rfl | hl
      · have := fst_len (n := n) (by omega)
        omega
      · rcases List.mem_append.mp hl with hl | hl
        · have := bT l hl
          omega
        · have := m3 l hl
          omega
    · exact b7 l hl
  have tA := tot_le bA
  have tB := tot_le bB
  have tC := tot_le bC
  have tE := tot_le bE
  have lB : (L2 ++ ps.map linePr).length ≤ 12 := by rw [List.length_append, List.length_map]; omega
  have lE : (L3 ++ x7).length ≤ 35 := by rw [List.length_append]; omega
  have uA : tot L1 ≤ 1000 := by rw [lL1] at tA; omega
  have uB : tot (L2 ++ ps.map linePr) ≤ 1000 := by omega
  have uC : tot L4 ≤ 10000 := by omega
  have uE : tot (L3 ++ x7) ≤ 10000 := by omega
  have jA := join_any (ls := L1) (by omega)
  have jB := join_any (ls := L2 ++ ps.map linePr) (by omega)
  have jC := join_any (ls := L4) (by omega)
  have jE := join_any (ls := L3 ++ x7) (by omega)
  have eA : Str.join "\n" L1 = txtA n st := by rw [← hL1]; rfl
  have eB : Str.join "\n" (L2 ++ ps.map linePr) = txtB n st ps := by rw [← hL2]; rfl
  refine ⟨Str.join "\n" L4, Str.join "\n" (L3 ++ x7), ?_, ?_, ?_, ?_, ?_⟩
  · rw [← eA, ← eB]
    have h2' : (2 : Nat) ≤ 16777216 := by omega
    generalize L2 ++ ps.map linePr = UU at *
    generalize ps.map linePr ++ [tl] = TT at *
    generalize L3 ++ x7 = VV at *
    simp -implicitDefEqProofs [-List.map_map, jA, jB, jC, jE, sizeLine_eq]
  · rw [← eA]
    exact Nat.le_trans (join_tot L1) uA
  · rw [← eB]
    exact Nat.le_trans (join_tot _) uB
  · exact Nat.le_trans (join_tot _) uC
  · exact Nat.le_trans (join_tot _) uE
end
end LK
set_option Elab.async false
set_option linter.all false
set_option maxRecDepth 100000
set_option maxHeartbeats 1000000
namespace LK
open PySem PySem.Spec PyProof.Rows L2 DL
set_option autoImplicit false
section
variable {c : Ad}
/-! ### own lists given up -/
def ceAB (a b : Tps) : List (Option OO) := some (.lst (((List.range a.length).map fun i => Xv.cell (i + 1)) ++ b.map fun p => .dat (pairD true p))) :: a.map pcell
theorem ceS_AB (st : Tps) : ceS st = ceAB st [] := by
  unfold ceS ceAB
  rw [List.map_nil, List.append_nil]
def finX (a b : Tps) : Xv → Xv
  | .dat d => .dat d
  | .cell 0 => .dat (.lst (pairsD (a ++ b)))
  | .cell (j + 1) => match a[j]? with
    | some p => .dat (pairD true p)
    | none => .cell (j + 1)
theorem frz_all : ∀ (n : Nat) (a b : Tps) (sl : List (Option Xv)), a.length = n → frzAll (((List.range a.length).map (· + 1)).reverse ++ [0]) ⟨sl, ceAB a b⟩ = some ⟨sl.map fun o => o.map (finX a b), [none]⟩
  | 0, a, b, sl, h => by
    have : a = [] := List.length_eq_zero_iff.mp h
    subst this
    show (frzK 0 ⟨sl, ceAB [] b⟩).bind (frzAll []) = _
    have e : frzK 0 ⟨sl, ceAB [] b⟩ = some ⟨sl.map fun o => o.map (subX 0 (.lst (pairsD b))), [none]⟩ := by
      unfold frzK ceAB
      have ha : allDat (b.map fun p => Xv.dat (pairD true p)) = some (pairsD b) := by
        have := allDat_dat (pairsD b)
        unfold pairsD at this ⊢
        rwa [List.map_map] at this
      simp [ha, cutK]
    rw [e]
    show some _ = some _
    congr 2
    apply List.map_congr_left
    intro o _
    cases o with
    | none => rfl
    | some x =>
      cases x with
      | dat d => rfl
      | cell j =>
        cases j with
        | zero => rfl
        | succ j => rfl
  | n + 1, a, b, sl, h => by
    obtain ⟨a', p, rfl⟩ : ∃ a' p, a = a' ++ [p] := by
      rcases List.eq_nil_or_concat a with h' | ⟨a', p, h'⟩
      · rw [h'] at h
        cases h
      · exact ⟨a', p, by rw [h', List.concat_eq_append]⟩
    have hl : a'.length = n := by simpa using h
    have ih := frz_all n a' (p :: b) (sl.map fun o => o.map (subX (a'.length + 1) (pairD true p))) hl
    have er : ((List.range (a' ++ [p]).length).map (· + 1)).reverse ++ [0] = (a'.length + 1) :: (((List.range a'.length).map (· + 1)).reverse ++ [0]) := by
      rw [List.length_append, List.length_singleton, List.range_succ, List.map_append, List.reverse_append]
      rfl
    rw [er]
    show (frzK (a'.length + 1) ⟨sl, ceAB (a' ++ [p]) b⟩).bind (frzAll _) = _
    have e : frzK (a'.length + 1) ⟨sl, ceAB (a' ++ [p]) b⟩ = some ⟨sl.map fun o => o.map (subX (a'.length + 1) (pairD true p)), ceAB a' (p :: b)⟩ := by
      unfold frzK
      have hc : (ceAB (a' ++ [p]) b)[a'.length + 1]? = some (some (.lst ([D.str p.1, D.str p.2].map .dat))) := by
        unfold ceAB
        rw [List.getElem?_cons_succ, List.map_append, List.getElem?_append_right (by simp)]
        simp [pcell]
      dsimp only
      rw [hc]
      dsimp only
      rw [allDat_dat]
      show some _ = some _
      have hd : D.lst [.str p.1, .str p.2] = pairD true p := rfl
      dsimp only
      rw [hd]
      congr 2
      unfold cutK
      rw [if_pos ⟨by unfold ceAB; simp, by omega⟩]
      unfold ceAB
      rw [List.map_cons, List.take_succ_cons]
      congr 1
      · show some (subO (a'.length + 1) (pairD true p) (.lst _)) = some (OO.lst _)
        congr 1
        show OO.lst (List.map (subX (a'.length + 1) (pairD true p)) _) = OO.lst _
        congr 1
        rw [List.map_append, List.length_append, List.length_singleton, List.range_succ, List.map_append, List.map_append, List.map_map, List.map_map, List.append_assoc]
        congr 1
        · apply List.map_congr_left
          intro i hi
          have := List.mem_range.mp hi
          show (if i + 1 = a'.length + 1 then _ else _) = _
          rw [if_neg (by omega)]
        · show (if a'.length + 1 = a'.length + 1 then Xv.dat (pairD true p) else _) :: _ = _
          rw [if_pos rfl, List.map_cons]
          congr 1
          show List.map _ (List.map _ b) = _
          rw [List.map_map]
          rfl
      · rw [List.map_append, List.map_append, List.map_map, List.take_left' (by simp)]
        apply List.map_congr_left
        intro q _
        rfl
    rw [e]
    show frzAll _ _ = _
    rw [ih, List.map_map]
    congr 2
    apply List.map_congr_left
    intro o _
    cases o with
    | none => rfl
    | some x =>
      cases x with
      | dat d => rfl
      | cell j =>
        cases j with
        | zero =>
          show some (finX a' (p :: b) (.cell 0)) = some (finX (a' ++ [p]) b (.cell 0))
          unfold finX
          simp
        | succ j =>
          show some (finX a' (p :: b) (if j + 1 = a'.length + 1 then .dat (pairD true p) else .cell (j + 1))) = some (finX (a' ++ [p]) b (.cell (j + 1)))
          by_cases hj : j = a'.length
          · subst hj
            rw [if_pos rfl]
            unfold finX
            simp
          · rw [if_neg (by omega)]
            have hq : (a' ++ [p])[j]? = a'[j]? := by
              by_cases hj2 : j < a'.length
              · rw [List.getElem?_append_left hj2]
              · rw [List.getElem?_eq_none (l := a') (by omega), List.getElem?_eq_none (by simp; omega)]
            simp only [finX, hq]
theorem frzD_own {sl : List (Option Xv)} {i : Nat} (st : Tps) (h : sl[i]? = some (some (.cell 0))) : sFrzD i ⟨sl, ceS st⟩ = .nx ⟨sl.map fun o => o.map (finX st []), [none]⟩ := by
  have hf := frz_all st.length st [] sl rfl
  unfold sFrzD
  dsimp only
  rw [h]
  have hc : (ceS st)[0]? = some (some (.lst ((List.range st.length).map fun i => Xv.cell (i + 1)))) := rfl
  dsimp only
  rw [hc]
  dsimp only
  have hm : ((List.range st.length).map fun i => Xv.cell (i + 1)).filterMap cellIx = (List.range st.length).map (· + 1) := by
    rw [List.filterMap_map, ← List.filterMap_eq_map]
    rfl
  rw [hm, ceS_AB, hf]
/-! ### a stamp called pair -/
theorem fresh_iff : ∀ (st pre : Tps), allFresh pre st = true ↔ (∀ p ∈ st, p.1 ∉ pre.map (·.1)) ∧ (st.map (·.1)).Nodup
  | [], pre => by simp [allFresh]
  | p :: st, pre => by
    unfold allFresh
    rw [Bool.and_eq_true, fresh_iff st (pre ++ [p])]
    have h1 : fresh1 pre p = true ↔ p.1 ∉ pre.map (·.1) := by
      unfold fresh1
      rw [Bool.not_eq_true', ← Bool.not_eq_true, List.any_eq_true]
      refine not_congr ?_
      constructor
      · rintro ⟨q, q1, q2⟩
        exact List.mem_map.mpr ⟨q, q1, beq_iff_eq.mp q2⟩
      · intro h
        obtain ⟨q, q1, q2⟩ := List.mem_map.mp h
        exact ⟨q, q1, beq_iff_eq.mpr q2⟩
    rw [h1, List.map_cons, List.nodup_cons]
    constructor
    · rintro ⟨a, b, d⟩
      refine ⟨fun q hq => ?_, fun hm => ?_, d⟩
      · rcases List.mem_cons.mp hq with rfl | hq
        · exact a
        · exact fun z => b q hq (by rw [List.map_append]; exact List.mem_append_left _ z)
      · obtain ⟨q, q1, q2⟩ := List.mem_map.mp hm
        exact b q q1 (by rw [List.map_append, q2]; simp)
    · rintro ⟨a, b, d⟩
      refine ⟨a p (List.mem_cons_self ..), fun q hq z => ?_, d⟩
      rw [List.map_append] at z
      rcases List.mem_append.mp z with z | z
      · exact a q (List.mem_cons_of_mem _ hq) z
      · have : q.1 = p.1 := by simpa using z
        exact b (List.mem_map.mpr ⟨q, hq, this⟩)
theorem nodup_set {x : Str} : ∀ (xs : List Str) (j : Nat), xs.Nodup → x ∉ xs → (xs.set j x).Nodup
  | [], _, _, _ => List.nodup_nil
  | y :: ys, 0, h, hx => List.nodup_cons.mpr ⟨fun z => hx (List.mem_cons_of_mem _ z), (List.nodup_cons.mp h).2⟩
  | y :: ys, j + 1, h, hx => by
    obtain ⟨h1, h2⟩ := List.nodup_cons.mp h
    refine List.nodup_cons.mpr ⟨fun z => ?_, nodup_set ys j h2 fun z => hx (List.mem_cons_of_mem _ z)⟩
    rcases List.mem_or_eq_of_mem_set z with z | z
    · exact h1 z
    · exact hx (by rw [z]; exact List.mem_cons_self ..)
theorem pair_ok : isName ("pair" : Str) = true := by decide +kernel
theorem called_ok {n : Int} {st : Tps} {j : Nat} (h : OkStock n st 24) (hj : j < st.length) (hp : ("pair" : Str) ∉ st.map (·.1)) : OkStock n (st.set j ("pair", st[j].2)) 24 := by
  refine ⟨h.n0, h.n1, by rw [List.length_set]; exact h.len, fun p hp => ?_, ?_⟩
  · rcases List.mem_or_eq_of_mem_set hp with hp | rfl
    · exact h.good p hp
    · obtain ⟨g1, g2, g3⟩ := h.good st[j] (List.getElem_mem hj)
      refine ⟨?_, ?_, g3⟩
      · unfold okSt at g1 ⊢
        dsimp only
        rw [pair_ok]
        simp only [Bool.and_eq_true] at g1
        rw [g1.1.2, g1.2]
        rfl
      · have : ("pair" : Str).length = 4 := by decide
        show ("pair" : Str).length ≤ sizeLine
        rw [this, sizeLine_eq]
        omega
  · have hn := ((fresh_iff st []).mp h.fresh).2
    refine (fresh_iff _ []).mpr ⟨fun p _ => by simp, ?_⟩
    rw [List.map_set]
    exact nodup_set _ j hn hp
end
end LK
set_option Elab.async false
set_option linter.all false
set_option maxRecDepth 100000
set_option maxHeartbeats 2000000
namespace LK
open PySem PySem.Spec PyProof.Rows L2 DL
set_option autoImplicit false
section
variable {c : Ad}
/-! ### the law -/
def lw (ns hd : List Int) (n many : Nat) (x4 x5 x6 x7 x8 x9 x10 x11 x12 x13 x14 x15 : Option Xv) (ce : List (Option OO)) : S :=
  ⟨[some (.dat (.sq ns)), some (.dat (.lst (hd.map .int))), some (.dat (.int (n : Nat))), some (.dat (.int (many : Nat))), x4, x5, x6, x7, x8, x9, x10, x11, x12, x13, x14, x15, none, none], ce⟩
def HS : List Int := 12 :: 12 :: 5 :: 3 :: 7 :: 2 :: 3 :: 3 :: 2 :: List.replicate 10 3
theorem head_sizes : (e2 dAdd (((nLst (aCons (Rs.ok (.int 12)) (aCons (Rs.ok (.int 12)) (aCons (Rs.ok (.int 5)) (aCons (Rs.ok (.int 3)) (aCons (Rs.ok (.int 7)) (aCons (Rs.ok (.int 2)) (aCons (Rs.ok (.int 3)) (aCons (Rs.ok (.int 3)) (aCons (Rs.ok (.int 2)) (Rs.ok [])))))))))))).bind noD) (e2 dMul (((nLst (aCons (Rs.ok (.int 3)) (Rs.ok [])))).bind noD) (Rs.ok (.int 10)))) = .ok (.lst (HS.map .int)) := by
  have h := mul1 (d := .int 3) (n := 10) (by omega) (by omega)
  have h2 : (10 : Int).toNat = 10 := rfl
  rw [h2] at h
  simp -implicitDefEqProofs [h, sizeLine_eq, HS]
theorem HS_ok : ∀ s ∈ HS, 0 < s ∧ s < 1000000 := by decide
theorem pick {xs : List Nat} {m : Nat} {v : Int} (h0 : 0 ≤ v) (h1 : v < (xs.length : Int)) (h : ∀ x ∈ xs, x ≤ m) : ∃ k : Nat, atI (xs.map fun x => D.int (x : Nat)) v = some (.int (k : Nat)) ∧ k ∈ xs := by
  obtain ⟨d, hd, hm⟩ := atI_some (xs := xs.map fun x => D.int (x : Nat)) h0 (by rwa [List.length_map])
  obtain ⟨k, hk, rfl⟩ := List.mem_map.mp hm
  exact ⟨k, hd, hk⟩
theorem sh_ce (st : Tps) : (ceS st).map (fun o => o.map (shO 0)) = ceS st := by
  unfold ceS
  rw [List.map_cons]
  congr 1
  · show some (OO.lst (List.map (shX 0) _)) = _
    rw [List.map_map]
    congr 2
    apply List.map_congr_left
    intro i _
    show Xv.cell (0 + (i + 1)) = _
    rw [Nat.zero_add]
  · rw [List.map_map]
    rfl
theorem slice69 {hd : List Int} (h : hd.length = 19) : ∃ a b d, hd[6]? = some a ∧ hd[7]? = some b ∧ hd[8]? = some d ∧ dSl (.lst (hd.map .int)) (some 6) (some 9) = some (.lst [.int a, .int b, .int d]) := by
  match hd, h with
  | [a0, a1, a2, a3, a4, a5, a6, a7, a8, a9, a10, a11, a12, a13, a14, a15, a16, a17, a18], _ => exact ⟨a6, a7, a8, rfl, rfl, rfl, rfl⟩
theorem pair_names (x0 x1 x2 x3 x4 x5 x6 x7 x8 x9 x10 x11 x12 x13 x14 x15 x16 x17 : Option D) (st : Tps) : lcL (cN 16) cTrue (le_law_1 c) (wipeE [x0, x1, x2, x3, x4, x5, x6, x7, x8, x9, x10, x11, x12, x13, x14, x15, x16, x17] [16]) (pairsD st) = .ok ((st.map (·.1)).map .str) := by
  rw [List.map_map]
  exact lc_mapA st fun p _ => by simp -implicitDefEqProofs [le_law_1, wipeE, pairD, atI_zero]
/-- the step that calls a stamp pair -/
theorem called_is {ns hd : List Int} {n many : Nat} {st : Tps} (hd' : Dig HS hd) (h : OkStock (n : Nat) st 24) (hl : st.length = many) :
    ∃ (st' : Tps) (y5 : Option Xv), OkStock (n : Nat) st' 24 ∧ st'.length = many ∧
      (sIf (tAndS (tBs fun δ => ((e2 dEq (e2 dIx (eVar 1 δ) (Rs.ok (.int 3))) (Rs.ok (.int 0))).bind toB)) (tAndS (tBs fun δ => ((e2 dGt (eVar 3 δ) (Rs.ok (.int 0))).bind toB)) (tVs fun δ => ((e2 dNotIn (Rs.ok (.str "pair")) (((eLc [16] (cN 16) cTrue (le_law_1 c) δ (iItems (eVar 4 δ)))).bind noD)).bind toB)))) (sSeq (sSetIx 5 (xC 4) (xB fun δ => (e2 dMod (eCb cInt (aCons (e2 dIx (eVar 1 δ) (Rs.ok (.int 4))) (Rs.ok []))) (eCb cMin2 (aCons (Rs.ok (.int 7)) (aCons (eVar 3 δ) (Rs.ok []))))))) (sSetI (xC 5) (xB fun δ => (Rs.ok (.int 0))) (xB fun δ => (Rs.ok (.str "pair"))))) sNil)
        (lw ns hd n many (some (.cell 0)) none none none none none none none none none none none (ceS st)) = .nx (lw ns hd n many (some (.cell 0)) y5 none none none none none none none none none none (ceS st')) := by
  obtain ⟨v3, r3, v30, v31⟩ := hd'.at (i := 3) (s := 3) rfl
  obtain ⟨v4, r4, v40, v41⟩ := hd'.at (i := 4) (s := 7) rfl
  have r3 : atI (hd.map D.int) 3 = some (.int v3) := r3
  have r4 : atI (hd.map D.int) 4 = some (.int v4) := r4
  have v1 : eVar 1 (envB (lw ns hd n many (some (.cell 0)) none none none none none none none none none none none (ceS st))) = .ok (.lst (hd.map .int)) := rfl
  have v3' : eVar 3 (envB (lw ns hd n many (some (.cell 0)) none none none none none none none none none none none (ceS st))) = .ok (.int (many : Nat)) := rfl
  have hv : envV (lw ns hd n many (some (.cell 0)) none none none none none none none none none none none (ceS st)) = [some (.sq ns), some (.lst (hd.map .int)), some (.int (n : Nat)), some (.int (many : Nat)), some (.lst (pairsD st)), none, none, none, none, none, none, none, none, none, none, none, none, none] := by
    have := view_own st
    unfold lw
    simp -implicitDefEqProofs only [q_envV, List.map_cons, List.map_nil, Option.bind_some, Option.bind_none, q_viewX_dat, this]
  have hin := in_strs "pair" (st.map (·.1))
  have hlen := h.len
  have hpl : (pairsD st).length ≤ 16777216 := by unfold pairsD; rw [List.length_map]; omega
  have hpn := fun a0 a1 a2 a3 a4 a5 a6 a7 a8 a9 a10 a11 a12 a13 a14 a15 a16 a17 => pair_names (c := c) a0 a1 a2 a3 a4 a5 a6 a7 a8 a9 a10 a11 a12 a13 a14 a15 a16 a17 st
  have t3 : (tVs fun δ => ((e2 dNotIn (Rs.ok (.str "pair")) (((eLc [16] (cN 16) cTrue (le_law_1 c) δ (iItems (eVar 4 δ)))).bind noD)).bind toB)) (lw ns hd n many (some (.cell 0)) none none none none none none none none none none none (ceS st)) = .ok (!((st.map (·.1)).any fun t => t == ("pair" : Str))) := by
    rw [q_tVs, hv]
    simp -implicitDefEqProofs only [q_e2, Rs.bind_ok, q_eLc, q_iItems, q_eVarS, q_eVar0, q_items_lst, ofO_some, sizeLine_eq, if_pos hpl, hpn, q_only_ok, q_noD_lst, hin, q_toB, q_okOnly]
  have t1 : (tBs fun δ => ((e2 dEq (e2 dIx (eVar 1 δ) (Rs.ok (.int 3))) (Rs.ok (.int 0))).bind toB)) (lw ns hd n many (some (.cell 0)) none none none none none none none none none none none (ceS st)) = .ok (v3 == 0) := by
    rw [q_tBs, v1]
    simp -implicitDefEqProofs only [q_e2, Rs.bind_ok, q_ix_lst, r3, ofO_some, q_eq_int, q_toB]
  have t2 : (tBs fun δ => ((e2 dGt (eVar 3 δ) (Rs.ok (.int 0))).bind toB)) (lw ns hd n many (some (.cell 0)) none none none none none none none none none none none (ceS st)) = .ok (decide ((0 : Int) < (many : Nat))) := by
    rw [q_tBs, v3']
    simp -implicitDefEqProofs only [q_e2, Rs.bind_ok, q_gt, ofO_some, q_toB]
  by_cases hb : (v3 == 0 && (decide ((0 : Int) < (many : Nat)) && !((st.map (·.1)).any fun t => t == ("pair" : Str)))) = true
  · rw [Bool.and_eq_true, Bool.and_eq_true, decide_eq_true_eq, Bool.not_eq_true'] at hb
    obtain ⟨b1, b2, b3⟩ := hb
    have hm0 : (0 : Int) < (min 7 many : Nat) := by omega
    obtain ⟨j, hj⟩ : ∃ j : Nat, (j : Int) = v4 % (min 7 many : Nat) := ⟨(v4 % (min 7 many : Nat)).toNat, by
      have := Int.emod_nonneg v4 (show ((min 7 many : Nat) : Int) ≠ 0 by omega)
      omega⟩
    have hj1 := Int.emod_lt_of_pos v4 hm0
    have hjl : j < st.length := by omega
    have hnp : ("pair" : Str) ∉ st.map (·.1) := fun z => by
      rw [any_mem.mpr z] at b3
      cases b3
    refine ⟨st.set j ("pair", st[j].2), some (.cell (j + 1)), called_ok h hjl hnp, by rw [List.length_set]; exact hl, ?_⟩
    rw [if_yes (by rw [q_tAndS, t1, Rs.bind_ok, if_pos b1, q_tAndS, t2, Rs.bind_ok, if_pos (by simpa using b2), t3, b3]; rfl)]
    have hmin : cMin2 [.int 7, .int (many : Nat)] = some (.int ((min 7 many : Nat) : Int)) := by
      show some (D.int (if ((many : Nat) : Int) < 7 then ((many : Nat) : Int) else 7)) = _
      congr 2
      split <;> omega
    have hc0 : cellOf (lw ns hd n many (some (.cell 0)) none none none none none none none none none none none (ceS st)) (.cell 0) = some (0, .lst ((List.range st.length).map fun i => Xv.cell (i + 1))) := rfl
    have hix : ixN ((List.range st.length).map fun i => Xv.cell (i + 1)).length (j : Int) = some j := by
      rw [List.length_map, List.length_range, ixN_some (by omega) (by omega), Int.toNat_natCast]
    have hge : ((List.range st.length).map fun i => Xv.cell (i + 1))[j]? = some (.cell (j + 1)) := by
      rw [List.getElem?_map, List.getElem?_range hjl]
      rfl
    have w1 : sSetIx 5 (xC 4) (xB fun δ => (e2 dMod (eCb cInt (aCons (e2 dIx (eVar 1 δ) (Rs.ok (.int 4))) (Rs.ok []))) (eCb cMin2 (aCons (Rs.ok (.int 7)) (aCons (eVar 3 δ) (Rs.ok [])))))) (lw ns hd n many (some (.cell 0)) none none none none none none none none none none none (ceS st)) = .nx (lw ns hd n many (some (.cell 0)) (some (.cell (j + 1))) none none none none none none none none none none (ceS st)) := by
      unfold sSetIx
      have hx4 : xC 4 (lw ns hd n many (some (.cell 0)) none none none none none none none none none none none (ceS st)) = .ok (.cell 0) := rfl
      rw [hx4, q_oX_ok, q_xB, v1, v3']
      simp -implicitDefEqProofs only [q_aCons, q_e2, Rs.bind_ok, q_ix_lst, r4, ofO_some, q_eCb, q_cInt_int, hmin, q_mod_int, if_pos hm0, ← hj, q_oX_ok, hc0, hix, hge]
      rfl
    rw [seq_nx w1]
    have hcj : cellOf (lw ns hd n many (some (.cell 0)) (some (.cell (j + 1))) none none none none none none none none none none (ceS st)) (.cell (j + 1)) = some (j + 1, .lst [.dat (.str st[j].1), .dat (.str st[j].2)]) := by
      unfold lw
      rw [q_cellOf]
      have : (ceS st)[j + 1]? = some (pcell st[j]) := by
        unfold ceS
        rw [List.getElem?_cons_succ, List.getElem?_map, List.getElem?_eq_getElem hjl]
        rfl
      rw [this]
      rfl
    unfold sSetI
    have hx5 : xC 5 (lw ns hd n many (some (.cell 0)) (some (.cell (j + 1))) none none none none none none none none none none (ceS st)) = .ok (.cell (j + 1)) := rfl
    have hix0 : ixN [Xv.dat (.str st[j].1), .dat (.str st[j].2)].length 0 = some 0 := rfl
    rw [q_xB, Rs.bind_ok, q_oX_ok, hx5, q_oX_ok, q_xB, Rs.bind_ok, q_oX_ok, hcj]
    dsimp only
    rw [hix0]
    show Out.nx (S.setCell _ _ _) = _
    unfold lw
    rw [q_setCell]
    congr 2
    unfold ceS
    rw [List.set_cons_succ, List.length_set, List.map_set]
    rfl
  · refine ⟨st, none, h, hl, ?_⟩
    rw [if_no]
    · rfl
    · rw [q_tAndS, t1, Rs.bind_ok]
      by_cases b1 : (v3 == 0) = true
      · rw [if_pos b1, q_tAndS, t2, Rs.bind_ok]
        by_cases b2 : decide ((0 : Int) < (many : Nat)) = true
        · rw [if_pos b2, t3]
          rw [b1, b2, Bool.true_and, Bool.true_and] at hb
          rw [(Bool.not_eq_true _).mp hb]
        · rw [if_neg b2]
      · rw [if_neg b1]
end
end LK
set_option Elab.async false
set_option linter.all false
set_option maxRecDepth 100000
set_option maxHeartbeats 2000000
namespace LK
open PySem PySem.Spec PyProof.Rows L2 DL
set_option autoImplicit false
section
variable {c : Ad}
/-! ### pairs drawn -/
def SZ (n : Nat) : List Int := List.replicate n 54 ++ List.replicate n 54
theorem rep2 {α : Type} (xs : List α) : (List.replicate 2 xs).flatten = xs ++ xs := by
  show xs ++ (xs ++ []) = _
  rw [List.append_nil]
theorem pair_sizes {n : Nat} (hn : n ≤ 30) : (e2 dMul (e2 dMul (((nLst (aCons (Rs.ok (.int 54)) (Rs.ok [])))).bind noD) (Rs.ok (.int (n : Nat)))) (Rs.ok (.int 2))) = .ok (.lst ((SZ n).map .int)) := by
  have h1 := mul1 (d := .int 54) (n := (n : Int)) (by omega) (by omega)
  rw [Int.toNat_natCast] at h1
  have h2 : dMul (.lst (List.replicate n (.int 54))) (.int 2) = some (.lst (List.replicate n (D.int 54) ++ List.replicate n (D.int 54))) := by
    show (if -(2 ^ 63) ≤ (2 : Int) ∧ (2 : Int) < 2 ^ 63 ∧ (List.replicate n (D.int 54)).length * (2 : Int).toNat ≤ sizeLine then some (D.lst (List.replicate (2 : Int).toNat (List.replicate n (D.int 54))).flatten) else none) = _
    have e : (2 : Int).toNat = 2 := rfl
    rw [e, if_pos ⟨by omega, by omega, by rw [List.length_replicate, sizeLine_eq]; omega⟩]
    rw [rep2]
  have hl : (1 : Nat) ≤ 16777216 := by omega
  simp -implicitDefEqProofs only [q_e2, q_nLst, q_aCons, Rs.bind_ok, List.length_cons, List.length_nil, Nat.zero_add, sizeLine_eq, if_pos hl, q_noD_lst, h1, ofO_some, h2]
  unfold SZ
  rw [List.map_append, List.map_replicate]
theorem SZ_ok (n : Nat) : ∀ s ∈ SZ n, 0 < s ∧ s < 1000000 := by
  intro s hs
  unfold SZ at hs
  simp only [List.mem_append, List.mem_replicate] at hs
  omega
theorem pair_turn {ns hd : List Int} {n many j : Nat} {x4 x5 : Option Xv} {x7 x8 : Option Xv} {ps : Tps} (hn : n ≤ 30) (hj : j ≤ 4) (hp : ps.length ≤ 4) :
    ∃ p y8, (p.1.length = n ∧ p.2.length = n) ∧ lb_law_1 c (lw ns hd n many x4 x5 (some (.cell 1)) (some (.dat (.int (j : Nat)))) x8 none none none none none none none [none, some (.lst ((pairsD ps).map .dat))]) = .nx (lw ns hd n many x4 x5 (some (.cell 1)) (some (.dat (.int (j : Nat)))) y8 none none none none none none none [none, some (.lst ((pairsD (ps ++ [p])).map .dat))]) := by
  obtain ⟨z, hz⟩ := cell_is (c := c) ns (k := 25 + (j : Int)) (by omega) (by omega)
  obtain ⟨row, hdg, hdig⟩ := digits_is (c := c) z (sizes := SZ n) (dig_sizes (SZ_ok n)) (by unfold SZ; simp; omega)
  obtain ⟨a, ha, _, ha3⟩ := layer_is (c := c) (n := n) hdg (by unfold SZ; simp) (by omega)
  have hdd := hdg.drop n
  have hsd : (SZ n).drop n = List.replicate n 54 := by
    unfold SZ
    rw [List.drop_left' (by simp)]
  rw [hsd] at hdd
  obtain ⟨b, hb, _, hb3⟩ := layer_is (c := c) (n := n) hdd (by simp) (by omega)
  refine ⟨(a, b), some (.dat (.lst (row.map .int))), ⟨ha3, hb3⟩, ?_⟩
  unfold lb_law_1
  have w8 : sSet 8 (xB fun δ => ((aCons ((aCons (eVar 0 δ) (aCons (e2 dAdd (Rs.ok (.int 25)) (eVar 7 δ)) (Rs.ok []))).bind (m__law_cell c)) (aCons (e2 dMul (e2 dMul (((nLst (aCons (Rs.ok (.int 54)) (Rs.ok [])))).bind noD) (eVar 2 δ)) (Rs.ok (.int 2))) (Rs.ok []))).bind (m__law_digits c))) (lw ns hd n many x4 x5 (some (.cell 1)) (some (.dat (.int (j : Nat)))) x8 none none none none none none none [none, some (.lst ((pairsD ps).map .dat))]) = .nx (lw ns hd n many x4 x5 (some (.cell 1)) (some (.dat (.int (j : Nat)))) (some (.dat (.lst (row.map .int)))) none none none none none none none [none, some (.lst ((pairsD ps).map .dat))]) := by
    refine (set_is (x := .dat (.lst (row.map .int))) ?_).trans rfl
    have v0 : eVar 0 (envB (lw ns hd n many x4 x5 (some (.cell 1)) (some (.dat (.int (j : Nat)))) x8 none none none none none none none [none, some (.lst ((pairsD ps).map .dat))])) = .ok (.sq ns) := rfl
    have v2 : eVar 2 (envB (lw ns hd n many x4 x5 (some (.cell 1)) (some (.dat (.int (j : Nat)))) x8 none none none none none none none [none, some (.lst ((pairsD ps).map .dat))])) = .ok (.int (n : Nat)) := rfl
    have v7 : eVar 7 (envB (lw ns hd n many x4 x5 (some (.cell 1)) (some (.dat (.int (j : Nat)))) x8 none none none none none none none [none, some (.lst ((pairsD ps).map .dat))])) = .ok (.int (j : Nat)) := rfl
    have hps := pair_sizes hn
    rw [q_xB, v0, v2, v7, hps]
    generalize (SZ n).map D.int = sz at *
    simp -implicitDefEqProofs only [q_aCons, q_e2, Rs.bind_ok, q_add_int, ofO_some, hz, hdig]
  rw [seq_nx w8]
  have hsl := slice_rows row n
  have hlt : (pairsD ps).length < 16777216 := by unfold pairsD; rw [List.length_map]; omega
  have h2 : (2 : Nat) ≤ 16777216 := by omega
  have hxc : xC 6 (lw ns hd n many x4 x5 (some (.cell 1)) (some (.dat (.int (j : Nat)))) (some (.dat (.lst (row.map .int)))) none none none none none none none [none, some (.lst ((pairsD ps).map .dat))]) = .ok (.cell 1) := rfl
  have hcl : cellOf (lw ns hd n many x4 x5 (some (.cell 1)) (some (.dat (.int (j : Nat)))) (some (.dat (.lst (row.map .int)))) none none none none none none none [none, some (.lst ((pairsD ps).map .dat))]) (.cell 1) = some (1, .lst ((pairsD ps).map .dat)) := rfl
  have v2 : eVar 2 (envB (lw ns hd n many x4 x5 (some (.cell 1)) (some (.dat (.int (j : Nat)))) (some (.dat (.lst (row.map .int)))) none none none none none none none [none, some (.lst ((pairsD ps).map .dat))])) = .ok (.int (n : Nat)) := rfl
  have v8 : eVar 8 (envB (lw ns hd n many x4 x5 (some (.cell 1)) (some (.dat (.int (j : Nat)))) (some (.dat (.lst (row.map .int)))) none none none none none none none [none, some (.lst ((pairsD ps).map .dat))])) = .ok (.lst (row.map .int)) := rfl
  rw [q_sApp, hxc, q_oX_ok, hcl]
  dsimp only
  rw [q_xB, v2, v8]
  simp -implicitDefEqProofs only [q_aCons, Rs.bind_ok, ha, q_eSl, q_oPart, hsl, ofO_some, hb, q_nLst, List.length_cons, List.length_nil, Nat.zero_add, Nat.reduceAdd, sizeLine_eq, if_pos h2, q_noD_lst, q_oX_ok, List.length_map, if_pos hlt]
  unfold lw
  rw [q_setCell]
  unfold pairsD
  rw [List.map_append, List.map_append]
  rfl
theorem pairs_loop {ns hd : List Int} {n many m : Nat} {x4 x5 : Option Xv} (hn : n ≤ 30) (hm : m ≤ 4) :
    ∃ (ps : Tps) (x7 x8 : Option Xv), ps.length = m ∧ (∀ p ∈ ps, p.1.length = n ∧ p.2.length = n) ∧ forL (gN 7) (lb_law_1 c) (DL.upTo 0 m) (lw ns hd n many x4 x5 (some (.cell 1)) none none none none none none none none none [none, some (.lst [])]) = .nx (lw ns hd n many x4 x5 (some (.cell 1)) x7 x8 none none none none none none none [none, some (.lst ((pairsD ps).map .dat))]) := by
  obtain ⟨s', e, ps, x7, x8, q1, q2, rfl⟩ := forL_range (f := gN 7) (body := lb_law_1 c) (fun j s => ∃ (ps : Tps) (x7 x8 : Option Xv), ps.length = j ∧ (∀ p ∈ ps, p.1.length = n ∧ p.2.length = n) ∧ s = lw ns hd n many x4 x5 (some (.cell 1)) x7 x8 none none none none none none none [none, some (.lst ((pairsD ps).map .dat))]) m (lw ns hd n many x4 x5 (some (.cell 1)) none none none none none none none none none [none, some (.lst [])]) (fun j s hj hs => by
    obtain ⟨ps, x7, x8, q1, q2, rfl⟩ := hs
    obtain ⟨p, y8, p1, p2⟩ := pair_turn (c := c) (ns := ns) (hd := hd) (many := many) (j := j) (x4 := x4) (x5 := x5) (x7 := x7) (x8 := x8) (ps := ps) hn (by omega) (by omega)
    refine ⟨_, _, rfl, ?_, ps ++ [p], some (.dat (.int (j : Nat))), y8, by simp [q1], fun q hq => ?_, rfl⟩
    · have e : S.put (lw ns hd n many x4 x5 (some (.cell 1)) x7 x8 none none none none none none none [none, some (.lst ((pairsD ps).map .dat))]) 7 (.dat (.int (j : Nat))) = lw ns hd n many x4 x5 (some (.cell 1)) (some (.dat (.int (j : Nat)))) x8 none none none none none none none [none, some (.lst ((pairsD ps).map .dat))] := rfl
      rw [e, p2]
      rfl
    · rcases List.mem_append.mp hq with hq | hq
      · exact q2 q hq
      · rw [List.mem_singleton.mp hq]
        exact p1) ⟨[], none, none, rfl, (fun _ h => by cases h), rfl⟩
  exact ⟨ps, x7, x8, q1, q2, e⟩
/-! ### the questions -/
theorem sm_of {t : Str} {k : Nat} (h : t.length ≤ k) (hk : k ≤ 100000) : Sm t := Nat.le_trans h hk
def ND (A B C E : Str) : D := .lst [.lst [.str A, .str B], .lst [.str C, .str E]]
theorem ask_loop1 {ns hd : List Int} {n many : Nat} {x4 x5 x6 x7 x8 x10 x11 : Option Xv} {A B C E : Str} {v5 : Int} (r5 : atI (hd.map D.int) 5 = some (.int v5)) (hA : Sm A) (hB : Sm B) (hC : Sm C) (hE : Sm E) :
    ∃ y7, lp_law_2 c (lw ns hd n many x4 x5 x6 x7 x8 (some (.dat (ND A B C E))) x10 x11 none none none none [none]) = .nx (lw ns hd n many x4 x5 x6 y7 x8 (some (.dat (ND A B C E))) x10 x11 none none none none [none]) := by
  obtain ⟨s', e, y7, rfl⟩ := forL_range (f := gN 7) (body := lb_law_2 c) (fun j s => ∃ (x7 : Option Xv), s = lw ns hd n many x4 x5 x6 x7 x8 (some (.dat (ND A B C E))) x10 x11 none none none none [none]) 2 (lw ns hd n many x4 x5 x6 x7 x8 (some (.dat (ND A B C E))) x10 x11 none none none none [none]) (fun j s hj hs => by
    obtain ⟨x7, rfl⟩ := hs
    refine ⟨_, lw ns hd n many x4 x5 x6 (some (.dat (.int (j : Nat)))) x8 (some (.dat (ND A B C E))) x10 x11 none none none none [none], rfl, ?_, _, rfl⟩
    have e : S.put (lw ns hd n many x4 x5 x6 x7 x8 (some (.dat (ND A B C E))) x10 x11 none none none none [none]) 7 (.dat (.int (j : Nat))) = lw ns hd n many x4 x5 x6 (some (.dat (.int (j : Nat)))) x8 (some (.dat (ND A B C E))) x10 x11 none none none none [none] := rfl
    rw [e]
    unfold lb_law_2
    have v1 : eVar 1 (envB (lw ns hd n many x4 x5 x6 (some (.dat (.int (j : Nat)))) x8 (some (.dat (ND A B C E))) x10 x11 none none none none [none])) = .ok (.lst (hd.map .int)) := rfl
    have v7 : eVar 7 (envB (lw ns hd n many x4 x5 x6 (some (.dat (.int (j : Nat)))) x8 (some (.dat (ND A B C E))) x10 x11 none none none none [none])) = .ok (.int (j : Nat)) := rfl
    have v9 : eVar 9 (envB (lw ns hd n many x4 x5 x6 (some (.dat (.int (j : Nat)))) x8 (some (.dat (ND A B C E))) x10 x11 none none none none [none])) = .ok (ND A B C E) := rfl
    obtain ⟨t, u, ht, hu, h1, h2⟩ : ∃ t u, Sm t ∧ Sm u ∧ atI [D.str A, .str B] (j : Int) = some (.str t) ∧ atI [D.str C, .str E] (j : Int) = some (.str u) := by
      match j, hj with
      | 0, _ => exact ⟨A, C, hA, hC, rfl, rfl⟩
      | 1, _ => exact ⟨B, E, hB, hE, rfl, rfl⟩
    have a1 := asked_true (c := c) ht
    have a2 := asked_true (c := c) hu
    have i0 : atI [D.lst [.str A, .str B], .lst [.str C, .str E]] 0 = some (.lst [.str A, .str B]) := rfl
    have i1 : atI [D.lst [.str A, .str B], .lst [.str C, .str E]] 1 = some (.lst [.str C, .str E]) := rfl
    rw [if_no]
    · rfl
    · rw [q_tBs, v1, v7, v9]
      unfold ND
      simp -implicitDefEqProofs only [q_bOr, q_bNot, q_aCons, q_e2, Rs.bind_ok, q_ix_lst, i0, i1, h1, h2, r5, ofO_some, q_eq_int, q_ne_int, a1, a2, q_toB, Bool.not_true, Bool.false_eq_true, if_false]) ⟨x7, rfl⟩
  refine ⟨y7, ?_⟩
  unfold lp_law_2
  rw [q_sFor]
  have hit : (iRg rng1 (aCons (Rs.ok (.int 2)) (Rs.ok []))) = .ok (DL.upTo 0 2) := by
    have h2 : rgOk 2 = true := rg_int (by omega) (by omega)
    rw [q_aCons, Rs.bind_ok, Rs.bind_ok, q_iRg, Rs.bind_ok, q_rng1, if_pos h2, ofO_some]
    rfl
  rw [hit]
  exact e
theorem ask_loop3 {ns : List Int} {words : List Str} {hd : List Int} {n many : Nat} {x4 x5 x6 x7 x8 x9 x10 x11 x12 x13 x14 : Option Xv} (hw : 1 ≤ words.length) (hw2 : ∀ l ∈ words, l.length ≤ 20) :
    ∃ y7, lp_law_5 c (lw ns hd n many x4 x5 x6 x7 x8 x9 x10 x11 x12 x13 x14 (some (.dat (.lst (words.map .str)))) [none]) = .nx (lw ns hd n many x4 x5 x6 y7 x8 x9 x10 x11 x12 x13 x14 (some (.dat (.lst (words.map .str)))) [none]) := by
  obtain ⟨s', e, y7, rfl⟩ := forL_range (f := gN 7) (body := lb_law_5 c) (fun j s => ∃ (x7 : Option Xv), s = lw ns hd n many x4 x5 x6 x7 x8 x9 x10 x11 x12 x13 x14 (some (.dat (.lst (words.map .str)))) [none]) 4 (lw ns hd n many x4 x5 x6 x7 x8 x9 x10 x11 x12 x13 x14 (some (.dat (.lst (words.map .str)))) [none]) (fun j s hj hs => by
    obtain ⟨x7, rfl⟩ := hs
    refine ⟨_, lw ns hd n many x4 x5 x6 (some (.dat (.int (j : Nat)))) x8 x9 x10 x11 x12 x13 x14 (some (.dat (.lst (words.map .str)))) [none], rfl, ?_, _, rfl⟩
    have e : S.put (lw ns hd n many x4 x5 x6 x7 x8 x9 x10 x11 x12 x13 x14 (some (.dat (.lst (words.map .str)))) [none]) 7 (.dat (.int (j : Nat))) = lw ns hd n many x4 x5 x6 (some (.dat (.int (j : Nat)))) x8 x9 x10 x11 x12 x13 x14 (some (.dat (.lst (words.map .str)))) [none] := rfl
    rw [e]
    unfold lb_law_5
    have v0 : eVar 0 (envB (lw ns hd n many x4 x5 x6 (some (.dat (.int (j : Nat)))) x8 x9 x10 x11 x12 x13 x14 (some (.dat (.lst (words.map .str)))) [none])) = .ok (.sq ns) := rfl
    have v7 : eVar 7 (envB (lw ns hd n many x4 x5 x6 (some (.dat (.int (j : Nat)))) x8 x9 x10 x11 x12 x13 x14 (some (.dat (.lst (words.map .str)))) [none])) = .ok (.int (j : Nat)) := rfl
    have v15 : eVar 15 (envB (lw ns hd n many x4 x5 x6 (some (.dat (.int (j : Nat)))) x8 x9 x10 x11 x12 x13 x14 (some (.dat (.lst (words.map .str)))) [none])) = .ok (.lst (words.map .str)) := rfl
    obtain ⟨z, hz⟩ := cell_is (c := c) ns (k := 59 + (j : Int)) (by omega) (by omega)
    obtain ⟨t, ht, htl⟩ := free_is (c := c) z hw hw2
    have a1 := asked_true (c := c) (sm_of htl (by omega))
    have hp2 : (0 : Int) < 2 := by omega
    rw [if_no]
    · rfl
    · rw [q_tBs, v0, v7, v15]
      generalize words.map D.str = WW at *
      simp -implicitDefEqProofs only [q_bNot, q_aCons, q_e2, Rs.bind_ok, q_add_int, ofO_some, hz, ht, q_mod_int, if_pos hp2, q_eq_int, a1, q_toB, Bool.not_true]) ⟨x7, rfl⟩
  refine ⟨y7, ?_⟩
  unfold lp_law_5
  rw [q_sFor]
  have hit : (iRg rng1 (aCons (Rs.ok (.int 4)) (Rs.ok []))) = .ok (DL.upTo 0 4) := by
    have h2 : rgOk 4 = true := rg_int (by omega) (by omega)
    rw [q_aCons, Rs.bind_ok, Rs.bind_ok, q_iRg, Rs.bind_ok, q_rng1, if_pos h2, ofO_some]
    rfl
  rw [hit]
  exact e
def bound : Nat → Nat → Nat
  | 0, b => b
  | k + 1, b => 4 * bound k b + 300
theorem bound_le {k : Nat} (h : k ≤ 3) : bound k 1000 ≤ 80000 ∧ (k < 3 → bound k 1000 ≤ 30000) := by
  match k, h with
  | 0, _ => decide
  | 1, _ => decide
  | 2, _ => decide
  | 3, _ => decide
theorem spoil_loop {ns hd : List Int} {n many j m : Nat} {x4 x5 x6 x8 x9 x10 x11 x14 : Option Xv} {fur : List Str} {t : Str} (hn : n ≤ 30) (hj : j ≤ 10) (hm : m ≤ 3) (ht : t.length ≤ 1000) (hg : 1 ≤ fur.length) (hg2 : ∀ l ∈ fur, l.length ≤ 200) :
    ∃ u y8 y14, Sm u ∧ forL (gN 14) (lb_law_3 c) (DL.upTo 0 m) (lw ns hd n many x4 x5 x6 (some (.dat (.int (j : Nat)))) x8 x9 x10 x11 (some (.dat (.lst (fur.map .str)))) (some (.dat (.str t))) x14 none [none]) = .nx (lw ns hd n many x4 x5 x6 (some (.dat (.int (j : Nat)))) y8 x9 x10 x11 (some (.dat (.lst (fur.map .str)))) (some (.dat (.str u))) y14 none [none]) := by
  obtain ⟨s', e, u, y8, y14, hu, rfl⟩ := forL_range (f := gN 14) (body := lb_law_3 c) (fun i s => ∃ (t : Str) (x8 x14 : Option Xv), t.length ≤ bound i 1000 ∧ s = lw ns hd n many x4 x5 x6 (some (.dat (.int (j : Nat)))) x8 x9 x10 x11 (some (.dat (.lst (fur.map .str)))) (some (.dat (.str t))) x14 none [none]) m (lw ns hd n many x4 x5 x6 (some (.dat (.int (j : Nat)))) x8 x9 x10 x11 (some (.dat (.lst (fur.map .str)))) (some (.dat (.str t))) x14 none [none]) (fun i s hi hs => by
    obtain ⟨t, x8, x14, ht, rfl⟩ := hs
    have hb := (bound_le (k := i) (by omega)).2 (by omega)
    have hm3 : CMulW 3 (j : Int) := mul_ok (by omega) (by omega) (by omega) (by omega)
    obtain ⟨z, hz⟩ := cell_is (c := c) ns (k := 29 + 3 * (j : Int) + (i : Int)) (by omega) (by omega)
    obtain ⟨row, hdg, hdig⟩ := digits_is (c := c) z (sizes := [18, 3000, 3000, 200]) (dig_sizes (by decide)) (by decide)
    obtain ⟨fs, hfs, hf1, hf2⟩ := firsts_is (c := c) (n := n) hn
    obtain ⟨u, hu, hul⟩ := spoilt_is (c := c) (note := t) (firsts := fs) (further := fur) (by omega) hdg hf1 hf2 hg hg2
    refine ⟨_, lw ns hd n many x4 x5 x6 (some (.dat (.int (j : Nat)))) (some (.dat (.lst (row.map .int)))) x9 x10 x11 (some (.dat (.lst (fur.map .str)))) (some (.dat (.str u))) (some (.dat (.int (i : Nat)))) none [none], rfl, ?_, u, _, _, by show u.length ≤ 4 * bound i 1000 + 300; omega, rfl⟩
    have e : S.put (lw ns hd n many x4 x5 x6 (some (.dat (.int (j : Nat)))) x8 x9 x10 x11 (some (.dat (.lst (fur.map .str)))) (some (.dat (.str t))) x14 none [none]) 14 (.dat (.int (i : Nat))) = lw ns hd n many x4 x5 x6 (some (.dat (.int (j : Nat)))) x8 x9 x10 x11 (some (.dat (.lst (fur.map .str)))) (some (.dat (.str t))) (some (.dat (.int (i : Nat)))) none [none] := rfl
    rw [e]
    unfold lb_law_3
    have hsz : (((nLst (aCons (Rs.ok (D.int 18)) (aCons (Rs.ok (.int 3000)) (aCons (Rs.ok (.int 3000)) (aCons (Rs.ok (.int 200)) (Rs.ok []))))))).bind noD) = .ok (.lst ([18, 3000, 3000, 200].map D.int)) := by
      simp -implicitDefEqProofs [sizeLine_eq]
    have w8 : sSet 8 (xB fun δ => ((aCons ((aCons (eVar 0 δ) (aCons (e2 dAdd (e2 dAdd (Rs.ok (.int 29)) (e2 dMul (Rs.ok (.int 3)) (eVar 7 δ))) (eVar 14 δ)) (Rs.ok []))).bind (m__law_cell c)) (aCons (((nLst (aCons (Rs.ok (.int 18)) (aCons (Rs.ok (.int 3000)) (aCons (Rs.ok (.int 3000)) (aCons (Rs.ok (.int 200)) (Rs.ok []))))))).bind noD) (Rs.ok []))).bind (m__law_digits c))) (lw ns hd n many x4 x5 x6 (some (.dat (.int (j : Nat)))) x8 x9 x10 x11 (some (.dat (.lst (fur.map .str)))) (some (.dat (.str t))) (some (.dat (.int (i : Nat)))) none [none]) = .nx (lw ns hd n many x4 x5 x6 (some (.dat (.int (j : Nat)))) (some (.dat (.lst (row.map .int)))) x9 x10 x11 (some (.dat (.lst (fur.map .str)))) (some (.dat (.str t))) (some (.dat (.int (i : Nat)))) none [none]) := by
      refine (set_is (x := .dat (.lst (row.map .int))) ?_).trans rfl
      have v0 : eVar 0 (envB (lw ns hd n many x4 x5 x6 (some (.dat (.int (j : Nat)))) x8 x9 x10 x11 (some (.dat (.lst (fur.map .str)))) (some (.dat (.str t))) (some (.dat (.int (i : Nat)))) none [none])) = .ok (.sq ns) := rfl
      have v7 : eVar 7 (envB (lw ns hd n many x4 x5 x6 (some (.dat (.int (j : Nat)))) x8 x9 x10 x11 (some (.dat (.lst (fur.map .str)))) (some (.dat (.str t))) (some (.dat (.int (i : Nat)))) none [none])) = .ok (.int (j : Nat)) := rfl
      have v14 : eVar 14 (envB (lw ns hd n many x4 x5 x6 (some (.dat (.int (j : Nat)))) x8 x9 x10 x11 (some (.dat (.lst (fur.map .str)))) (some (.dat (.str t))) (some (.dat (.int (i : Nat)))) none [none])) = .ok (.int (i : Nat)) := rfl
      rw [q_xB, v0, v7, v14, hsz]
      simp -implicitDefEqProofs only [q_aCons, q_e2, Rs.bind_ok, q_mul_int, if_pos hm3, q_add_int, ofO_some, hz, hdig]
    rw [seq_nx w8]
    have w13 : sSet 13 (xB fun δ => ((aCons (eVar 13 δ) (aCons (eVar 8 δ) (aCons ((aCons (eVar 2 δ) (Rs.ok [])).bind (m__law_firsts c)) (aCons (eVar 12 δ) (Rs.ok []))))).bind (m__law_spoilt c))) (lw ns hd n many x4 x5 x6 (some (.dat (.int (j : Nat)))) (some (.dat (.lst (row.map .int)))) x9 x10 x11 (some (.dat (.lst (fur.map .str)))) (some (.dat (.str t))) (some (.dat (.int (i : Nat)))) none [none]) = .nx (lw ns hd n many x4 x5 x6 (some (.dat (.int (j : Nat)))) (some (.dat (.lst (row.map .int)))) x9 x10 x11 (some (.dat (.lst (fur.map .str)))) (some (.dat (.str u))) (some (.dat (.int (i : Nat)))) none [none]) := by
      refine (set_is (x := .dat (.str u)) ?_).trans rfl
      have v2 : eVar 2 (envB (lw ns hd n many x4 x5 x6 (some (.dat (.int (j : Nat)))) (some (.dat (.lst (row.map .int)))) x9 x10 x11 (some (.dat (.lst (fur.map .str)))) (some (.dat (.str t))) (some (.dat (.int (i : Nat)))) none [none])) = .ok (.int (n : Nat)) := rfl
      have v8 : eVar 8 (envB (lw ns hd n many x4 x5 x6 (some (.dat (.int (j : Nat)))) (some (.dat (.lst (row.map .int)))) x9 x10 x11 (some (.dat (.lst (fur.map .str)))) (some (.dat (.str t))) (some (.dat (.int (i : Nat)))) none [none])) = .ok (.lst (row.map .int)) := rfl
      have v12 : eVar 12 (envB (lw ns hd n many x4 x5 x6 (some (.dat (.int (j : Nat)))) (some (.dat (.lst (row.map .int)))) x9 x10 x11 (some (.dat (.lst (fur.map .str)))) (some (.dat (.str t))) (some (.dat (.int (i : Nat)))) none [none])) = .ok (.lst (fur.map .str)) := rfl
      have v13 : eVar 13 (envB (lw ns hd n many x4 x5 x6 (some (.dat (.int (j : Nat)))) (some (.dat (.lst (row.map .int)))) x9 x10 x11 (some (.dat (.lst (fur.map .str)))) (some (.dat (.str t))) (some (.dat (.int (i : Nat)))) none [none])) = .ok (.str t) := rfl
      rw [q_xB, v2, v8, v12, v13]
      simp -implicitDefEqProofs only [q_aCons, Rs.bind_ok, hfs, hu]
    rw [w13]
    rfl) ⟨t, x8, x14, ht, rfl⟩
  exact ⟨u, y8, y14, sm_of hu (by have := (bound_le hm).1; omega), e⟩
end
end LK
set_option Elab.async false
set_option linter.all false
set_option maxRecDepth 100000
set_option maxHeartbeats 4000000
namespace LK
open PySem PySem.Spec PyProof.Rows L2 DL
set_option autoImplicit false
section
variable {c : Ad}
theorem ask_loop2 {ns hd : List Int} {n many : Nat} {x4 x5 x6 x7 x8 x10 x11 : Option Xv} {fur : List Str} {A B C E : Str} (hd' : Dig HS hd) (hn : n ≤ 30) (hA : A.length ≤ 1000) (hB : B.length ≤ 1000) (hg : 1 ≤ fur.length) (hg2 : ∀ l ∈ fur, l.length ≤ 200) :
    ∃ y7 y8 y13 y14, lp_law_4 c (lw ns hd n many x4 x5 x6 x7 x8 (some (.dat (ND A B C E))) x10 x11 (some (.dat (.lst (fur.map .str)))) none none none [none]) = .nx (lw ns hd n many x4 x5 x6 y7 y8 (some (.dat (ND A B C E))) x10 x11 (some (.dat (.lst (fur.map .str)))) y13 y14 none [none]) := by
  obtain ⟨v5, r5, v50, v51⟩ := hd'.at (i := 5) (s := 2) rfl
  have r5 : atI (hd.map D.int) 5 = some (.int v5) := r5
  obtain ⟨s', e, y7, y8, y13, y14, rfl⟩ := forL_range (f := gN 7) (body := lb_law_4 c) (fun j s => ∃ (x7 x8 x13 x14 : Option Xv), s = lw ns hd n many x4 x5 x6 x7 x8 (some (.dat (ND A B C E))) x10 x11 (some (.dat (.lst (fur.map .str)))) x13 x14 none [none]) 10 (lw ns hd n many x4 x5 x6 x7 x8 (some (.dat (ND A B C E))) x10 x11 (some (.dat (.lst (fur.map .str)))) none none none [none]) (fun j s hj hs => by
    obtain ⟨x7, x8, x13, x14, rfl⟩ := hs
    obtain ⟨vm, rm, vm0, vm1⟩ := hd'.at (i := 9 + j) (s := 3) (by
      unfold HS
      have : 9 + j = j + 1 + 1 + 1 + 1 + 1 + 1 + 1 + 1 + 1 := by omega
      rw [this]
      simp only [List.getElem?_cons_succ, List.getElem?_replicate]
      rw [if_pos hj])
    obtain ⟨t, ht, htx⟩ : ∃ t, t.length ≤ 1000 ∧ atI [D.str A, .str B] ((j : Int) / 5) = some (.str t) := by
      by_cases h5 : j < 5
      · have : (j : Int) / 5 = 0 := by omega
        exact ⟨A, hA, by rw [this]; rfl⟩
      · have : (j : Int) / 5 = 1 := by omega
        exact ⟨B, hB, by rw [this]; rfl⟩
    obtain ⟨u, y8, y14, hu, hlp⟩ := spoil_loop (c := c) (ns := ns) (hd := hd) (n := n) (many := many) (j := j) (m := (1 + vm).toNat) (x4 := x4) (x5 := x5) (x6 := x6) (x8 := x8) (x9 := some (.dat (ND A B C E))) (x10 := x10) (x11 := x11) (x14 := x14) (fur := fur) (t := t) hn (by omega) (by omega) ht hg hg2
    refine ⟨_, lw ns hd n many x4 x5 x6 (some (.dat (.int (j : Nat)))) y8 (some (.dat (ND A B C E))) x10 x11 (some (.dat (.lst (fur.map .str)))) (some (.dat (.str u))) y14 none [none], rfl, ?_, _, _, _, _, rfl⟩
    have e : S.put (lw ns hd n many x4 x5 x6 x7 x8 (some (.dat (ND A B C E))) x10 x11 (some (.dat (.lst (fur.map .str)))) x13 x14 none [none]) 7 (.dat (.int (j : Nat))) = lw ns hd n many x4 x5 x6 (some (.dat (.int (j : Nat)))) x8 (some (.dat (ND A B C E))) x10 x11 (some (.dat (.lst (fur.map .str)))) x13 x14 none [none] := rfl
    rw [e]
    unfold lb_law_4
    have i0 : atI [D.lst [.str A, .str B], .lst [.str C, .str E]] 0 = some (.lst [.str A, .str B]) := rfl
    have hdv : CDivW (j : Int) 5 := div_ok (by omega) (by omega)
    have w13 : sSet 13 (xB fun δ => (e2 dIx (e2 dIx (eVar 9 δ) (Rs.ok (.int 0))) (e2 dDiv (eVar 7 δ) (Rs.ok (.int 5))))) (lw ns hd n many x4 x5 x6 (some (.dat (.int (j : Nat)))) x8 (some (.dat (ND A B C E))) x10 x11 (some (.dat (.lst (fur.map .str)))) x13 x14 none [none]) = .nx (lw ns hd n many x4 x5 x6 (some (.dat (.int (j : Nat)))) x8 (some (.dat (ND A B C E))) x10 x11 (some (.dat (.lst (fur.map .str)))) (some (.dat (.str t))) x14 none [none]) := by
      refine (set_is (x := .dat (.str t)) ?_).trans rfl
      have v7 : eVar 7 (envB (lw ns hd n many x4 x5 x6 (some (.dat (.int (j : Nat)))) x8 (some (.dat (ND A B C E))) x10 x11 (some (.dat (.lst (fur.map .str)))) x13 x14 none [none])) = .ok (.int (j : Nat)) := rfl
      have v9 : eVar 9 (envB (lw ns hd n many x4 x5 x6 (some (.dat (.int (j : Nat)))) x8 (some (.dat (ND A B C E))) x10 x11 (some (.dat (.lst (fur.map .str)))) x13 x14 none [none])) = .ok (ND A B C E) := rfl
      rw [q_xB, v7, v9]
      unfold ND
      simp -implicitDefEqProofs only [q_e2, Rs.bind_ok, q_ix_lst, i0, ofO_some, q_div_int, if_pos hdv, htx]
    rw [seq_nx w13]
    have hl3 : lp_law_3 c (lw ns hd n many x4 x5 x6 (some (.dat (.int (j : Nat)))) x8 (some (.dat (ND A B C E))) x10 x11 (some (.dat (.lst (fur.map .str)))) (some (.dat (.str t))) x14 none [none]) = .nx (lw ns hd n many x4 x5 x6 (some (.dat (.int (j : Nat)))) y8 (some (.dat (ND A B C E))) x10 x11 (some (.dat (.lst (fur.map .str)))) (some (.dat (.str u))) y14 none [none]) := by
      unfold lp_law_3
      rw [q_sFor]
      have v1 : eVar 1 (envB (lw ns hd n many x4 x5 x6 (some (.dat (.int (j : Nat)))) x8 (some (.dat (ND A B C E))) x10 x11 (some (.dat (.lst (fur.map .str)))) (some (.dat (.str t))) x14 none [none])) = .ok (.lst (hd.map .int)) := rfl
      have v7 : eVar 7 (envB (lw ns hd n many x4 x5 x6 (some (.dat (.int (j : Nat)))) x8 (some (.dat (ND A B C E))) x10 x11 (some (.dat (.lst (fur.map .str)))) (some (.dat (.str t))) x14 none [none])) = .ok (.int (j : Nat)) := rfl
      have e9 : (9 : Int) + (j : Int) = ((9 + j : Nat) : Int) := by omega
      have hrg : rgOk (1 + vm) = true := rg_int (by omega) (by omega)
      rw [v1, v7]
      simp -implicitDefEqProofs only [q_e2, Rs.bind_ok, q_add_int, ofO_some, e9, q_ix_lst, rm, q_aCons, q_iRg]
      rw [q_rng1, if_pos hrg, ofO_some]
      exact hlp
    rw [seq_nx hl3]
    have a1 := asked_true (c := c) hu
    have hp2 : (0 : Int) < 2 := by omega
    rw [if_no]
    · rfl
    · have v1 : eVar 1 (envB (lw ns hd n many x4 x5 x6 (some (.dat (.int (j : Nat)))) y8 (some (.dat (ND A B C E))) x10 x11 (some (.dat (.lst (fur.map .str)))) (some (.dat (.str u))) y14 none [none])) = .ok (.lst (hd.map .int)) := rfl
      have v7 : eVar 7 (envB (lw ns hd n many x4 x5 x6 (some (.dat (.int (j : Nat)))) y8 (some (.dat (ND A B C E))) x10 x11 (some (.dat (.lst (fur.map .str)))) (some (.dat (.str u))) y14 none [none])) = .ok (.int (j : Nat)) := rfl
      have v13 : eVar 13 (envB (lw ns hd n many x4 x5 x6 (some (.dat (.int (j : Nat)))) y8 (some (.dat (ND A B C E))) x10 x11 (some (.dat (.lst (fur.map .str)))) (some (.dat (.str u))) y14 none [none])) = .ok (.str u) := rfl
      rw [q_tBs, v1, v7, v13]
      simp -implicitDefEqProofs only [q_bNot, q_aCons, q_e2, Rs.bind_ok, q_ix_lst, r5, q_add_int, ofO_some, q_eCb, q_cInt_int, q_mod_int, if_pos hp2, q_eq_int, a1, q_toB, Bool.not_true]) ⟨x7, x8, none, none, rfl⟩
  refine ⟨y7, y8, y13, y14, ?_⟩
  unfold lp_law_4
  rw [q_sFor]
  have hit : (iRg rng1 (aCons (Rs.ok (.int 10)) (Rs.ok []))) = .ok (DL.upTo 0 10) := by
    have h2 : rgOk 10 = true := rg_int (by omega) (by omega)
    rw [q_aCons, Rs.bind_ok, Rs.bind_ok, q_iRg, Rs.bind_ok, q_rng1, if_pos h2, ofO_some]
    rfl
  rw [hit]
  exact e
theorem lists_of2 (x0 x1 x2 x3 x4 x5 x6 x7 x8 x9 x10 x11 x12 x13 x14 x15 x16 x17 : Option D) (st : Tps) : lcL (cN 16) cTrue (le_law_2 c) (wipeE [x0, x1, x2, x3, x4, x5, x6, x7, x8, x9, x10, x11, x12, x13, x14, x15, x16, x17] [16]) (pairsD st) = .ok (pairsD st) :=
  lc_mapA st fun p _ => by simp -implicitDefEqProofs [le_law_2, wipeE, pairD, cList]
theorem lists_of4 (x0 x1 x2 x3 x4 x5 x6 x7 x8 x9 x10 x11 x12 x13 x14 x15 x16 x17 : Option D) (st : Tps) : lcL (cN 16) cTrue (le_law_4 c) (wipeE [x0, x1, x2, x3, x4, x5, x6, x7, x8, x9, x10, x11, x12, x13, x14, x15, x16, x17] [16]) (pairsD st) = .ok (pairsD st) :=
  lc_mapA st fun p _ => by simp -implicitDefEqProofs [le_law_4, wipeE, pairD, cList]
theorem lists_of3 (x0 x1 x2 x3 x4 x5 x6 x7 x8 x9 x10 x11 x12 x13 x14 x15 x16 x17 : Option D) (st : Tps) : lcL (cN 17) cTrue (le_law_3 c) (wipeE [x0, x1, x2, x3, x4, x5, x6, x7, x8, x9, x10, x11, x12, x13, x14, x15, x16, x17] [17]) (pairsD st) = .ok (pairsD st) :=
  lc_mapA st fun p _ => by simp -implicitDefEqProofs [le_law_3, wipeE, pairD, cList]
theorem names_of5 (x0 x1 x2 x3 x4 x5 x6 x7 x8 x9 x10 x11 x12 x13 x14 x15 x16 x17 : Option D) (st : Tps) : lcL (cN 16) cTrue (le_law_5 c) (wipeE [x0, x1, x2, x3, x4, x5, x6, x7, x8, x9, x10, x11, x12, x13, x14, x15, x16, x17] [16]) (pairsD st) = .ok ((st.map (·.1)).map .str) := by
  rw [List.map_map]
  exact lc_mapA st fun p _ => by simp -implicitDefEqProofs [le_law_5, wipeE, pairD, atI_zero]
def words18 : List Str := [
  "stock ",
  "stock 1",
  "stock 2",
  "\n",
  " ",
  "3",
  "\na1 ",
  ".-",
  "b ",
  "--",
  "a",
  "",
  "12",
  "\nb .",
  "pair ",
  "\npair . -",
  "\npair .. -a",
  "\na1 .-"]
theorem words18_ok : ∀ l ∈ words18, l.length ≤ 20 := by decide +kernel
theorem law_true (ns : List Int) : m_law c [.sq ns] = .ok (.bl true) := by
  obtain ⟨z, hz⟩ := cell_is (c := c) ns (k := 0) (by omega) (by omega)
  obtain ⟨hd, hd', hdig⟩ := digits_is (c := c) z (sizes := HS) (dig_sizes HS_ok) (by decide)
  obtain ⟨v0, r0, v00, v01⟩ := hd'.at (i := 0) (s := 12) rfl
  obtain ⟨v1, r1, v10, v11⟩ := hd'.at (i := 1) (s := 12) rfl
  obtain ⟨v2, r2, v20, v21⟩ := hd'.at (i := 2) (s := 5) rfl
  obtain ⟨v5, r5, v50, v51⟩ := hd'.at (i := 5) (s := 2) rfl
  have r0 : atI (hd.map D.int) 0 = some (.int v0) := r0
  have r1 : atI (hd.map D.int) 1 = some (.int v1) := r1
  have r2 : atI (hd.map D.int) 2 = some (.int v2) := r2
  have r5 : atI (hd.map D.int) 5 = some (.int v5) := r5
  obtain ⟨n, hn, hnm⟩ := pick (xs := [3, 1, 5, 2, 30, 8, 4, 12, 29, 3, 6, 17]) (m := 30) v00 (by simpa using v01) (by decide)
  have hnb : 1 ≤ n ∧ n ≤ 30 := (show ∀ x ∈ [3, 1, 5, 2, 30, 8, 4, 12, 29, 3, 6, 17], 1 ≤ x ∧ x ≤ 30 by decide) n hnm
  obtain ⟨many, hm, hmm⟩ := pick (xs := [3, 1, 2, 0, 4, 24, 5, 2, 9, 24, 23, 7]) (m := 24) v10 (by simpa using v11) (by decide)
  have hmb : many ≤ 24 := (show ∀ x ∈ [3, 1, 2, 0, 4, 24, 5, 2, 9, 24, 23, 7], x ≤ 24 by decide) many hmm
  obtain ⟨st, hst, hok, hsl⟩ := stamps_is (c := c) ns (many := many) (n := n) hnb.1 hnb.2 hmb
  obtain ⟨st', y5, hok', hsl', hcall⟩ := called_is (c := c) (ns := ns) (hd := hd) (many := many) hd' hok hsl
  obtain ⟨d0, d1, d2, e6, e7, e8, hs69⟩ := slice69 (hd := hd) (by rw [hd'.1]; rfl)
  obtain ⟨ps, p7, p8, hpl, hps, hploop⟩ := pairs_loop (c := c) (ns := ns) (hd := hd) (n := n) (many := many) (m := v2.toNat) (x4 := some (.dat (.lst (pairsD st')))) (x5 := y5.map (finX st' [])) hnb.2 (by omega)
  have hps30 : ∀ p ∈ ps, p.1.length ≤ 30 ∧ p.2.length ≤ 30 := fun p hp => by
    obtain ⟨a, b⟩ := hps p hp
    omega
  have g6 := hd'.2 6 d0 3 e6 rfl
  have g7 := hd'.2 7 d1 3 e7 rfl
  have g8 := hd'.2 8 d2 2 e8 rfl
  obtain ⟨C, E, hnotes, hA, hB, hC, hE⟩ := notes_is (c := c) hok' (by omega) hps30 g6 g7 g8
  have hAt : Sm (txtA n st') := sm_of hA (by omega)
  have hBt : Sm (txtB n st' ps) := sm_of hB (by omega)
  obtain ⟨fur, hfur, hfur1, hfur2⟩ := further_is (c := c) (n := n) hnb.2 (st'.map (·.1))
  have hlen' := hok'.len
  have hok7 := hok'.take7
  have hl7 := hok7.len
  -- what is made
  have hinit : m_Stock___init__ c [.int (n : Nat), .lst (pairsD st')] = .ok (stockF n st') := init_ok (frozen_pairs (c := c) true st' (by omega)) (by omega) (by omega) (by omega) hok'.good hok'.fresh
  have hinit7 : m_Stock___init__ c [.int (n : Nat), .lst (pairsD (st'.take 7))] = .ok (stockF n (st'.take 7)) := init_ok (frozen_pairs (c := c) true (st'.take 7) (by omega)) (by omega) (by omega) (by omega) hok7.good hok7.fresh
  have hbox : m_Box___init__ c [stockD c n (st'.take 7), .lst (pairsD ps)] = .ok (boxF c n (st'.take 7) ps) := box_init (frozen_pairs (c := c) true ps (by omega))
  have hfs := format_stock_is (c := c) hok' (by omega) hAt rfl
  have hfb := format_box_is (c := c) (ps := ps) hok7 (by omega) (by omega) (fun p hp => by have := hps30 p hp; omega) hBt rfl
  have haA := alike_self (c := c) 4 (.str (txtA n st')) rfl
  have haB := alike_self (c := c) 4 (.str (txtB n st' ps)) rfl
  -- the walk over the mirror
  have hhs := head_sizes
  unfold m_law fnD mm_law
  have s0 : startX 18 [.sq ns] = ⟨[some (.dat (.sq ns)), none, none, none, none, none, none, none, none, none, none, none, none, none, none, none, none, none], []⟩ := rfl
  rw [if_pos (by rfl), s0]
  have w1 : sSet 1 (xB fun δ => ((aCons ((aCons (eVar 0 δ) (aCons (Rs.ok (.int 0)) (Rs.ok []))).bind (m__law_cell c)) (aCons (e2 dAdd (((nLst (aCons (Rs.ok (.int 12)) (aCons (Rs.ok (.int 12)) (aCons (Rs.ok (.int 5)) (aCons (Rs.ok (.int 3)) (aCons (Rs.ok (.int 7)) (aCons (Rs.ok (.int 2)) (aCons (Rs.ok (.int 3)) (aCons (Rs.ok (.int 3)) (aCons (Rs.ok (.int 2)) (Rs.ok [])))))))))))).bind noD) (e2 dMul (((nLst (aCons (Rs.ok (.int 3)) (Rs.ok [])))).bind noD) (Rs.ok (.int 10)))) (Rs.ok []))).bind (m__law_digits c))) ⟨[some (.dat (.sq ns)), none, none, none, none, none, none, none, none, none, none, none, none, none, none, none, none, none], []⟩ = .nx ⟨[some (.dat (.sq ns)), some (.dat (.lst (hd.map .int))), none, none, none, none, none, none, none, none, none, none, none, none, none, none, none, none], []⟩ := by
    rw [hhs]
    generalize HS.map D.int = sz at *
    simp -implicitDefEqProofs only [q_sSet, q_xB, q_envB, List.map_cons, List.map_nil, Option.bind_some, Option.bind_none, q_baseX_dat, q_aCons, q_eVar0, Rs.bind_ok, hz, hdig, q_oX_ok, q_put, List.set_cons_succ, List.set_cons_zero]
  rw [seq_nx w1]
  have hn' : atI [D.int 3, .int 1, .int 5, .int 2, .int 30, .int 8, .int 4, .int 12, .int 29, .int 3, .int 6, .int 17] v0 = some (.int (n : Nat)) := hn
  have hm' : atI [D.int 3, .int 1, .int 2, .int 0, .int 4, .int 24, .int 5, .int 2, .int 9, .int 24, .int 23, .int 7] v1 = some (.int (many : Nat)) := hm
  have w2 : sSet 2 (xB fun δ => (e2 dIx (((nLst (aCons (Rs.ok (.int 3)) (aCons (Rs.ok (.int 1)) (aCons (Rs.ok (.int 5)) (aCons (Rs.ok (.int 2)) (aCons (Rs.ok (.int 30)) (aCons (Rs.ok (.int 8)) (aCons (Rs.ok (.int 4)) (aCons (Rs.ok (.int 12)) (aCons (Rs.ok (.int 29)) (aCons (Rs.ok (.int 3)) (aCons (Rs.ok (.int 6)) (aCons (Rs.ok (.int 17)) (Rs.ok []))))))))))))))).bind noD) (e2 dIx (eVar 1 δ) (Rs.ok (.int 0))))) ⟨[some (.dat (.sq ns)), some (.dat (.lst (hd.map .int))), none, none, none, none, none, none, none, none, none, none, none, none, none, none, none, none], []⟩ = .nx ⟨[some (.dat (.sq ns)), some (.dat (.lst (hd.map .int))), some (.dat (.int (n : Nat))), none, none, none, none, none, none, none, none, none, none, none, none, none, none, none], []⟩ := by
    simp -implicitDefEqProofs [r0, hn', sizeLine_eq]
  have w3 : sSet 3 (xB fun δ => (e2 dIx (((nLst (aCons (Rs.ok (.int 3)) (aCons (Rs.ok (.int 1)) (aCons (Rs.ok (.int 2)) (aCons (Rs.ok (.int 0)) (aCons (Rs.ok (.int 4)) (aCons (Rs.ok (.int 24)) (aCons (Rs.ok (.int 5)) (aCons (Rs.ok (.int 2)) (aCons (Rs.ok (.int 9)) (aCons (Rs.ok (.int 24)) (aCons (Rs.ok (.int 23)) (aCons (Rs.ok (.int 7)) (Rs.ok []))))))))))))))).bind noD) (e2 dIx (eVar 1 δ) (Rs.ok (.int 1))))) ⟨[some (.dat (.sq ns)), some (.dat (.lst (hd.map .int))), some (.dat (.int (n : Nat))), none, none, none, none, none, none, none, none, none, none, none, none, none, none, none], []⟩ = .nx (lw ns hd n many none none none none none none none none none none none none []) := by
    unfold lw
    simp -implicitDefEqProofs [r1, hm', sizeLine_eq]
  rw [seq_nx w2, seq_nx w3]
  have w4 : sSetC 4 (fun δ => (aCons (eVar 0 δ) (aCons (Rs.ok (.int 1)) (aCons (eVar 3 δ) (aCons (eVar 2 δ) (Rs.ok [])))))) (m__law_stamps c) (lw ns hd n many none none none none none none none none none none none none []) = .nx (lw ns hd n many (some (.cell 0)) none none none none none none none none none none none (ceS st)) := by
    unfold sSetC
    have u0 : eVar 0 (envB (lw ns hd n many none none none none none none none none none none none none [])) = .ok (.sq ns) := rfl
    have u2 : eVar 2 (envB (lw ns hd n many none none none none none none none none none none none none [])) = .ok (.int (n : Nat)) := rfl
    have u3 : eVar 3 (envB (lw ns hd n many none none none none none none none none none none none none [])) = .ok (.int (many : Nat)) := rfl
    dsimp only
    rw [u0, u2, u3]
    simp -implicitDefEqProofs only [q_aCons, Rs.bind_ok, hst, q_oX_ok]
    have hsh := sh_ce st
    unfold lw
    show Out.nx ⟨_, [] ++ (ceS st).map (fun o => o.map (shO 0))⟩ = _
    rw [hsh]
    rfl
  rw [seq_nx w4, seq_nx hcall]
  have w5 : sFrzD 4 (lw ns hd n many (some (.cell 0)) y5 none none none none none none none none none none (ceS st')) = .nx (lw ns hd n many (some (.dat (.lst (pairsD st')))) (y5.map (finX st' [])) none none none none none none none none none none [none]) := by
    unfold lw
    rw [frzD_own st' rfl]
    simp -implicitDefEqProofs [finX]
  rw [seq_nx w5]
  have w6 : sNew 6 (nB fun δ => (nLst (Rs.ok []))) (lw ns hd n many (some (.dat (.lst (pairsD st')))) (y5.map (finX st' [])) none none none none none none none none none none [none]) = .nx (lw ns hd n many (some (.dat (.lst (pairsD st')))) (y5.map (finX st' [])) (some (.cell 1)) none none none none none none none none none [none, some (.lst [])]) := by
    unfold lw
    simp -implicitDefEqProofs [sizeLine_eq]
  rw [seq_nx w6]
  have hl1 : lp_law_1 c (lw ns hd n many (some (.dat (.lst (pairsD st')))) (y5.map (finX st' [])) (some (.cell 1)) none none none none none none none none none [none, some (.lst [])]) = .nx (lw ns hd n many (some (.dat (.lst (pairsD st')))) (y5.map (finX st' [])) (some (.cell 1)) p7 p8 none none none none none none none [none, some (.lst ((pairsD ps).map .dat))]) := by
    unfold lp_law_1
    rw [q_sFor]
    have u1 : eVar 1 (envB (lw ns hd n many (some (.dat (.lst (pairsD st')))) (y5.map (finX st' [])) (some (.cell 1)) none none none none none none none none none [none, some (.lst [])])) = .ok (.lst (hd.map .int)) := rfl
    have hrg : rgOk v2 = true := rg_int (by omega) (by omega)
    rw [u1]
    simp -implicitDefEqProofs only [q_e2, Rs.bind_ok, q_ix_lst, r2, ofO_some, q_aCons, q_iRg]
    rw [q_rng1, if_pos hrg, ofO_some]
    exact hploop
  rw [seq_nx hl1]
  obtain ⟨z5, hz5⟩ : ∃ z5, z5 = (y5.map (finX st' [])).map (subX 1 (.lst (pairsD ps))) := ⟨_, rfl⟩
  obtain ⟨z7, hz7⟩ : ∃ z7, z7 = p7.map (subX 1 (.lst (pairsD ps))) := ⟨_, rfl⟩
  obtain ⟨z8, hz8⟩ : ∃ z8, z8 = p8.map (subX 1 (.lst (pairsD ps))) := ⟨_, rfl⟩
  have w7 : sFrz 6 (lw ns hd n many (some (.dat (.lst (pairsD st')))) (y5.map (finX st' [])) (some (.cell 1)) p7 p8 none none none none none none none [none, some (.lst ((pairsD ps).map .dat))]) = .nx (lw ns hd n many (some (.dat (.lst (pairsD st')))) z5 (some (.dat (.lst (pairsD ps)))) z7 z8 none none none none none none none [none]) := by
    rw [hz5, hz7, hz8]
    unfold lw
    rw [sFrz_lst (k := 1) (ds := pairsD ps) rfl rfl]
    simp -implicitDefEqProofs [cutK]
  rw [seq_nx w7]
  have w9 : sSet 9 (xB fun δ => ((aCons (eVar 2 δ) (aCons (eVar 4 δ) (aCons (eVar 6 δ) (aCons (eSl (eVar 1 δ) (oPart (Rs.ok (.int 6))) (oPart (Rs.ok (.int 9)))) (Rs.ok []))))).bind (m__law_notes c))) (lw ns hd n many (some (.dat (.lst (pairsD st')))) z5 (some (.dat (.lst (pairsD ps)))) z7 z8 none none none none none none none [none]) = .nx (lw ns hd n many (some (.dat (.lst (pairsD st')))) z5 (some (.dat (.lst (pairsD ps)))) z7 z8 (some (.dat (ND (txtA n st') (txtB n st' ps) C E))) none none none none none none [none]) := by
    refine (set_is (x := .dat (ND (txtA n st') (txtB n st' ps) C E)) ?_).trans rfl
    have u1 : eVar 1 (envB (lw ns hd n many (some (.dat (.lst (pairsD st')))) z5 (some (.dat (.lst (pairsD ps)))) z7 z8 none none none none none none none [none])) = .ok (.lst (hd.map .int)) := rfl
    have u2 : eVar 2 (envB (lw ns hd n many (some (.dat (.lst (pairsD st')))) z5 (some (.dat (.lst (pairsD ps)))) z7 z8 none none none none none none none [none])) = .ok (.int (n : Nat)) := rfl
    have u4 : eVar 4 (envB (lw ns hd n many (some (.dat (.lst (pairsD st')))) z5 (some (.dat (.lst (pairsD ps)))) z7 z8 none none none none none none none [none])) = .ok (.lst (pairsD st')) := rfl
    have u6 : eVar 6 (envB (lw ns hd n many (some (.dat (.lst (pairsD st')))) z5 (some (.dat (.lst (pairsD ps)))) z7 z8 none none none none none none none [none])) = .ok (.lst (pairsD ps)) := rfl
    rw [q_xB, u1, u2, u4, u6]
    simp -implicitDefEqProofs only [q_aCons, Rs.bind_ok, q_eSl, q_oPart, hs69, ofO_some, hnotes]
    rfl
  rw [seq_nx w9]
  generalize hND : ND (txtA n st') (txtB n st' ps) C E = nd at *
  have hpl1 : (pairsD st').length ≤ 16777216 := by unfold pairsD; rw [List.length_map]; omega
  have hpl2 : (pairsD (st'.take 7)).length ≤ 16777216 := by unfold pairsD; rw [List.length_map]; omega
  have hpl3 : (pairsD ps).length ≤ 16777216 := by unfold pairsD; rw [List.length_map]; omega
  have ho2 := fun a0 a1 a2 a3 a4 a5 a6 a7 a8 a9 a10 a11 a12 a13 a14 a15 a16 a17 => lists_of2 (c := c) a0 a1 a2 a3 a4 a5 a6 a7 a8 a9 a10 a11 a12 a13 a14 a15 a16 a17 st'
  have ho4 := fun a0 a1 a2 a3 a4 a5 a6 a7 a8 a9 a10 a11 a12 a13 a14 a15 a16 a17 => lists_of4 (c := c) a0 a1 a2 a3 a4 a5 a6 a7 a8 a9 a10 a11 a12 a13 a14 a15 a16 a17 (st'.take 7)
  have ho3 := fun a0 a1 a2 a3 a4 a5 a6 a7 a8 a9 a10 a11 a12 a13 a14 a15 a16 a17 => lists_of3 (c := c) a0 a1 a2 a3 a4 a5 a6 a7 a8 a9 a10 a11 a12 a13 a14 a15 a16 a17 ps
  have ho5 := fun a0 a1 a2 a3 a4 a5 a6 a7 a8 a9 a10 a11 a12 a13 a14 a15 a16 a17 => names_of5 (c := c) a0 a1 a2 a3 a4 a5 a6 a7 a8 a9 a10 a11 a12 a13 a14 a15 a16 a17 st'
  have hst7 := slice_to st'
  have w10 : sSet 10 (xB fun δ => (eMake c.Stock (m_Stock___init__ c) (aCons (eVar 2 δ) (aCons (((eLc [16] (cN 16) cTrue (le_law_2 c) δ (iItems (eVar 4 δ)))).bind noD) (Rs.ok []))))) (lw ns hd n many (some (.dat (.lst (pairsD st')))) z5 (some (.dat (.lst (pairsD ps)))) z7 z8 (some (.dat nd)) none none none none none none [none]) = .nx (lw ns hd n many (some (.dat (.lst (pairsD st')))) z5 (some (.dat (.lst (pairsD ps)))) z7 z8 (some (.dat nd)) (some (.dat (stockD c n st'))) none none none none none [none]) := by
    unfold lw
    simp -implicitDefEqProofs only [q_sSet, q_xB, q_envB, List.map_cons, List.map_nil, Option.bind_some, Option.bind_none, q_baseX_dat, q_eMake, q_aCons, q_eVar0, q_eVarS, Rs.bind_ok, q_eLc, q_iItems, q_items_lst, ofO_some, sizeLine_eq, if_pos hpl1, ho2, q_only_ok, q_noD_lst, hinit, q_oX_ok, q_put, List.set_cons_succ, List.set_cons_zero]
    rfl
  rw [seq_nx w10]
  have w11 : sSet 11 (xB fun δ => (eMake c.Box (m_Box___init__ c) (aCons (eMake c.Stock (m_Stock___init__ c) (aCons (eVar 2 δ) (aCons (((eLc [16] (cN 16) cTrue (le_law_4 c) δ (iItems (eSl (eVar 4 δ) (Rs.ok none) (oPart (Rs.ok (.int 7))))))).bind noD) (Rs.ok [])))) (aCons (((eLc [17] (cN 17) cTrue (le_law_3 c) δ (iItems (eVar 6 δ)))).bind noD) (Rs.ok []))))) (lw ns hd n many (some (.dat (.lst (pairsD st')))) z5 (some (.dat (.lst (pairsD ps)))) z7 z8 (some (.dat nd)) (some (.dat (stockD c n st'))) none none none none none [none]) = .nx (lw ns hd n many (some (.dat (.lst (pairsD st')))) z5 (some (.dat (.lst (pairsD ps)))) z7 z8 (some (.dat nd)) (some (.dat (stockD c n st'))) (some (.dat (boxD c n (st'.take 7) ps))) none none none none [none]) := by
    have hbox' : m_Box___init__ c [.ins c.Stock (stockF n (st'.take 7)), .lst (pairsD ps)] = .ok (boxF c n (st'.take 7) ps) := hbox
    unfold lw
    simp -implicitDefEqProofs only [q_sSet, q_xB, q_envB, List.map_cons, List.map_nil, Option.bind_some, Option.bind_none, q_baseX_dat, q_eMake, q_aCons, q_eVar0, q_eVarS, Rs.bind_ok, q_eLc, q_iItems, q_eSl, q_oPart, hst7, q_items_lst, ofO_some, sizeLine_eq, if_pos hpl2, if_pos hpl3, ho4, ho3, q_only_ok, q_noD_lst, hinit7, hbox', q_oX_ok, q_put, List.set_cons_succ, List.set_cons_zero]
    rfl
  rw [seq_nx w11]
  have j0 : atI [D.lst [.str (txtA n st'), .str (txtB n st' ps)], .lst [.str C, .str E]] 0 = some (.lst [.str (txtA n st'), .str (txtB n st' ps)]) := rfl
  have k0 : atI [D.str (txtA n st'), .str (txtB n st' ps)] 0 = some (.str (txtA n st')) := rfl
  have k1 : atI [D.str (txtA n st'), .str (txtB n st' ps)] 1 = some (.str (txtB n st' ps)) := rfl
  have nd0 : dIx nd (.int 0) = some (.lst [.str (txtA n st'), .str (txtB n st' ps)]) := by
    rw [← hND]
    exact j0
  rw [seq_skip (by
    rw [q_tBs]
    have u9 : eVar 9 (envB (lw ns hd n many (some (.dat (.lst (pairsD st')))) z5 (some (.dat (.lst (pairsD ps)))) z7 z8 (some (.dat nd)) (some (.dat (stockD c n st'))) (some (.dat (boxD c n (st'.take 7) ps))) none none none none [none])) = .ok nd := rfl
    have u10 : eVar 10 (envB (lw ns hd n many (some (.dat (.lst (pairsD st')))) z5 (some (.dat (.lst (pairsD ps)))) z7 z8 (some (.dat nd)) (some (.dat (stockD c n st'))) (some (.dat (boxD c n (st'.take 7) ps))) none none none none [none])) = .ok (stockD c n st') := rfl
    have u11 : eVar 11 (envB (lw ns hd n many (some (.dat (.lst (pairsD st')))) z5 (some (.dat (.lst (pairsD ps)))) z7 z8 (some (.dat nd)) (some (.dat (stockD c n st'))) (some (.dat (boxD c n (st'.take 7) ps))) none none none none [none])) = .ok (boxD c n (st'.take 7) ps) := rfl
    rw [u9, u10, u11]
    simp -implicitDefEqProofs only [q_bOr, q_bNot, q_aCons, Rs.bind_ok, hfs, hfb, q_e2, nd0, ofO_some, q_ix_lst, k0, k1, haA, haB, q_toB, Bool.not_true, Bool.false_eq_true, if_false])]
  obtain ⟨a7, hloop1⟩ := ask_loop1 (c := c) (ns := ns) (hd := hd) (n := n) (many := many) (x4 := some (.dat (.lst (pairsD st')))) (x5 := z5) (x6 := some (.dat (.lst (pairsD ps)))) (x7 := z7) (x8 := z8) (x10 := some (.dat (stockD c n st'))) (x11 := some (.dat (boxD c n (st'.take 7) ps))) r5 hAt hBt (sm_of hC (by omega)) (sm_of hE (by omega))
  rw [hND] at hloop1
  rw [seq_nx hloop1]
  have w12 : sSet 12 (xB fun δ => ((aCons (eVar 2 δ) (aCons (((eLc [16] (cN 16) cTrue (le_law_5 c) δ (iItems (eVar 4 δ)))).bind noD) (Rs.ok []))).bind (m__law_further c))) (lw ns hd n many (some (.dat (.lst (pairsD st')))) z5 (some (.dat (.lst (pairsD ps)))) a7 z8 (some (.dat nd)) (some (.dat (stockD c n st'))) (some (.dat (boxD c n (st'.take 7) ps))) none none none none [none]) = .nx (lw ns hd n many (some (.dat (.lst (pairsD st')))) z5 (some (.dat (.lst (pairsD ps)))) a7 z8 (some (.dat nd)) (some (.dat (stockD c n st'))) (some (.dat (boxD c n (st'.take 7) ps))) (some (.dat (.lst (fur.map .str)))) none none none [none]) := by
    unfold lw
    simp -implicitDefEqProofs only [q_sSet, q_xB, q_envB, List.map_cons, List.map_nil, Option.bind_some, Option.bind_none, q_baseX_dat, q_aCons, q_eVar0, q_eVarS, Rs.bind_ok, q_eLc, q_iItems, q_items_lst, ofO_some, sizeLine_eq, if_pos hpl1, ho5, q_only_ok, q_noD_lst, hfur, q_oX_ok, q_put, List.set_cons_succ, List.set_cons_zero]
  rw [seq_nx w12]
  obtain ⟨b7, b8, b13, b14, hloop2⟩ := ask_loop2 (c := c) (ns := ns) (hd := hd) (n := n) (many := many) (x4 := some (.dat (.lst (pairsD st')))) (x5 := z5) (x6 := some (.dat (.lst (pairsD ps)))) (x7 := a7) (x8 := z8) (x10 := some (.dat (stockD c n st'))) (x11 := some (.dat (boxD c n (st'.take 7) ps))) (C := C) (E := E) hd' hnb.2 hA hB hfur1 hfur2
  rw [hND] at hloop2
  rw [seq_nx hloop2]
  have w15 : sSet 15 (xB fun δ => (((nLst (aCons (Rs.ok (.str "stock ")) (aCons (Rs.ok (.str "stock 1")) (aCons (Rs.ok (.str "stock 2")) (aCons (Rs.ok (.str "\n")) (aCons (Rs.ok (.str " ")) (aCons (Rs.ok (.str "3")) (aCons (Rs.ok (.str "\na1 ")) (aCons (Rs.ok (.str ".-")) (aCons (Rs.ok (.str "b ")) (aCons (Rs.ok (.str "--")) (aCons (Rs.ok (.str "a")) (aCons (Rs.ok (.str "")) (aCons (Rs.ok (.str "12")) (aCons (Rs.ok (.str "\nb .")) (aCons (Rs.ok (.str "pair ")) (aCons (Rs.ok (.str "\npair . -")) (Rs.ok []))))))))))))))))))).bind noD)) (lw ns hd n many (some (.dat (.lst (pairsD st')))) z5 (some (.dat (.lst (pairsD ps)))) b7 b8 (some (.dat nd)) (some (.dat (stockD c n st'))) (some (.dat (boxD c n (st'.take 7) ps))) (some (.dat (.lst (fur.map .str)))) b13 b14 none [none]) = .nx (lw ns hd n many (some (.dat (.lst (pairsD st')))) z5 (some (.dat (.lst (pairsD ps)))) b7 b8 (some (.dat nd)) (some (.dat (stockD c n st'))) (some (.dat (boxD c n (st'.take 7) ps))) (some (.dat (.lst (fur.map .str)))) b13 b14 (some (.dat (.lst ((words18.take 16).map .str)))) [none]) := by
    refine (set_is (x := .dat (.lst ((words18.take 16).map .str))) ?_).trans rfl
    rw [q_xB]
    simp -implicitDefEqProofs [sizeLine_eq, words18]
  rw [seq_nx w15]
  have w16 : sSet 15 (xB fun δ => (e2 dAdd (eVar 15 δ) (((nLst (aCons (Rs.ok (.str "\npair .. -a")) (aCons (Rs.ok (.str "\na1 .-")) (Rs.ok []))))).bind noD))) (lw ns hd n many (some (.dat (.lst (pairsD st')))) z5 (some (.dat (.lst (pairsD ps)))) b7 b8 (some (.dat nd)) (some (.dat (stockD c n st'))) (some (.dat (boxD c n (st'.take 7) ps))) (some (.dat (.lst (fur.map .str)))) b13 b14 (some (.dat (.lst ((words18.take 16).map .str)))) [none]) = .nx (lw ns hd n many (some (.dat (.lst (pairsD st')))) z5 (some (.dat (.lst (pairsD ps)))) b7 b8 (some (.dat nd)) (some (.dat (stockD c n st'))) (some (.dat (boxD c n (st'.take 7) ps))) (some (.dat (.lst (fur.map .str)))) b13 b14 (some (.dat (.lst (words18.map .str)))) [none]) := by
    refine (set_is (x := .dat (.lst (words18.map .str))) ?_).trans rfl
    have u15 : eVar 15 (envB (lw ns hd n many (some (.dat (.lst (pairsD st')))) z5 (some (.dat (.lst (pairsD ps)))) b7 b8 (some (.dat nd)) (some (.dat (stockD c n st'))) (some (.dat (boxD c n (st'.take 7) ps))) (some (.dat (.lst (fur.map .str)))) b13 b14 (some (.dat (.lst ((words18.take 16).map .str)))) [none])) = .ok (.lst ((words18.take 16).map .str)) := rfl
    rw [q_xB, u15]
    simp -implicitDefEqProofs [sizeLine_eq, words18]
  rw [seq_nx w16]
  obtain ⟨c7, hloop3⟩ := ask_loop3 (c := c) (ns := ns) (words := words18) (hd := hd) (n := n) (many := many) (x4 := some (.dat (.lst (pairsD st')))) (x5 := z5) (x6 := some (.dat (.lst (pairsD ps)))) (x7 := b7) (x8 := b8) (x9 := some (.dat nd)) (x10 := some (.dat (stockD c n st'))) (x11 := some (.dat (boxD c n (st'.take 7) ps))) (x12 := some (.dat (.lst (fur.map .str)))) (x13 := b13) (x14 := b14) (by decide) words18_ok
  rw [seq_nx hloop3]
  have u1 : eVar 1 (envB (lw ns hd n many (some (.dat (.lst (pairsD st')))) z5 (some (.dat (.lst (pairsD ps)))) c7 b8 (some (.dat nd)) (some (.dat (stockD c n st'))) (some (.dat (boxD c n (st'.take 7) ps))) (some (.dat (.lst (fur.map .str)))) b13 b14 (some (.dat (.lst (words18.map .str)))) [none])) = .ok (.lst (hd.map .int)) := rfl
  have u9 : eVar 9 (envB (lw ns hd n many (some (.dat (.lst (pairsD st')))) z5 (some (.dat (.lst (pairsD ps)))) c7 b8 (some (.dat nd)) (some (.dat (stockD c n st'))) (some (.dat (boxD c n (st'.take 7) ps))) (some (.dat (.lst (fur.map .str)))) b13 b14 (some (.dat (.lst (words18.map .str)))) [none])) = .ok nd := rfl
  have u10 : eVar 10 (envB (lw ns hd n many (some (.dat (.lst (pairsD st')))) z5 (some (.dat (.lst (pairsD ps)))) c7 b8 (some (.dat nd)) (some (.dat (stockD c n st'))) (some (.dat (boxD c n (st'.take 7) ps))) (some (.dat (.lst (fur.map .str)))) b13 b14 (some (.dat (.lst (words18.map .str)))) [none])) = .ok (stockD c n st') := rfl
  have u11 : eVar 11 (envB (lw ns hd n many (some (.dat (.lst (pairsD st')))) z5 (some (.dat (.lst (pairsD ps)))) c7 b8 (some (.dat nd)) (some (.dat (stockD c n st'))) (some (.dat (boxD c n (st'.take 7) ps))) (some (.dat (.lst (fur.map .str)))) b13 b14 (some (.dat (.lst (words18.map .str)))) [none])) = .ok (boxD c n (st'.take 7) ps) := rfl
  rw [seq_skip (by
    rw [q_tBs, u9, u10, u11]
    simp -implicitDefEqProofs [hfs, hfb, nd0, k0, k1, haA, haB])]
  have aA := asked_true (c := c) hAt
  have aB := asked_true (c := c) hBt
  rw [ret_is (d := .bl true) (by
    rw [q_rB, u1, u9]
    simp -implicitDefEqProofs only [q_vAnd, q_aCons, q_e2, Rs.bind_ok, nd0, ofO_some, q_ix_lst, k0, k1, r5, q_eq_int, aA, aB, if_true])]
  rfl
end
end LK
open PySem PySem.W PyProof.Rows
set_option maxRecDepth 100000 in
set_option maxHeartbeats 0 in
theorem PySem.Challenge.cw_stampsheets_k82_stock_and_box_notes_holds : PySem.Challenge.rw_stampsheets_k82_stock_and_box_notes.Holds := by
  w_on; o_law; k_head; (case hw => w_witness2)
  k_fill
  refine LK.walk (l := PySem.Challenge.rw_stampsheets_k82_stock_and_box_notes) rfl rfl (fun w h Y => PySem.W.kIn_of Y) ?F
  case F =>
    intro w mg fa h KX G hmg
    refine' LK.all_mk KX G hmg ?a_StampError ?a_BadName ?a_BadStamp ?a_NameTaken ?a_UnknownName ?a_BadNote ?a_BadClaimText ?a_Stock ?a_Box ?b_ValueError ?b_bool ?b_enumerate ?b_int ?b_isinstance ?b_len ?b_list ?b_min ?b_range ?b_set ?b_str ?b_sum ?b_tuple ?g_DIGITS ?g_FIGURES ?g_LETTERS ?g_LONGEST_NAME ?g_MOST_BOX_STAMPS ?g_MOST_CELLS_layers ?g_MOST_CELLS_stocknotes ?g_MOST_PAIRS ?g_MOST_STAMPS ?g_PAIR ?g_SIGNS ?g_STOCK_WORD ?xl_BadNote ?rb_BadNote ?xsa_BadNote ?xe_BadNote ?xt_BadNote ?xk_BadNote ?oa_BadNote ?om_BadNote ?ga_BadNote ?gg_BadNote ?xs_BadNote ?xh_BadNote ?pg_Stock ?hd_Stock ?po_Stock ?sa_Stock ?oa_Stock ?om_Stock ?tt_Stock ?on_Stock ?pg_Box ?hd_Box ?po_Box ?sa_Box ?oa_Box ?om_Box ?tt_Box ?on_Box ?on ?ot ?td_BadClaimText ?tq_BadClaimText ?td_BadName ?tq_BadName ?td_BadStamp ?tq_BadStamp ?td_NameTaken ?tq_NameTaken ?td_StampError ?tq_StampError ?td_UnknownName ?tq_UnknownName ?tb_StampError ?sm_BadNote_StampError ?sb_BadNote_BadClaimText ?ne_BadNote_BadClaimText ?sb_BadNote_BadName ?ne_BadNote_BadName ?sb_BadNote_BadStamp ?ne_BadNote_BadStamp ?sb_BadNote_NameTaken ?ne_BadNote_NameTaken ?sb_BadNote_UnknownName ?ne_BadNote_UnknownName ?sb_BadNote_ValueError ?n_BadNote_line ?n_Box_pairs ?n_Box_stock ?n_Stock_layers ?n_Stock_numbers ?n_Stock_size ?n_Stock_stamps ?a_number_in ?l_number_in ?c_number_in ?k_number_in ?a_size_in ?l_size_in ?c_size_in ?k_size_in ?a_BadNote___init__ ?ty_BadNote___init__ ?l_BadNote___init__ ?c_BadNote___init__ ?k_BadNote___init__ ?a_is_name ?l_is_name ?c_is_name ?k_is_name ?a_is_layer ?l_is_layer ?c_is_layer ?k_is_layer ?a_empty_layer ?l_empty_layer ?c_empty_layer ?k_empty_layer ?a_stamp_in ?l_stamp_in ?c_stamp_in ?k_stamp_in ?a_frozen ?l_frozen ?c_frozen ?k_frozen ?a_is_stamp ?l_is_stamp ?c_is_stamp ?k_is_stamp ?a_Stock___init__ ?i_Stock___init__ ?mk_Stock___init__ ?kc_Stock___init__ ?l_Stock___init__ ?c_Stock___init__ ?k_Stock___init__ ?a_stock_in ?l_stock_in ?c_stock_in ?k_stock_in ?a_parse_stock ?l_parse_stock ?c_parse_stock ?k_parse_stock ?a_is_pair_line ?l_is_pair_line ?c_is_pair_line ?k_is_pair_line ?a_first_pair_line ?l_first_pair_line ?c_first_pair_line ?k_first_pair_line ?a_is_layer_of ?l_is_layer_of ?c_is_layer_of ?k_is_layer_of ?a_pair_in ?l_pair_in ?c_pair_in ?k_pair_in ?a_Box___init__ ?i_Box___init__ ?mk_Box___init__ ?kc_Box___init__ ?l_Box___init__ ?c_Box___init__ ?k_Box___init__ ?a_parse_box ?l_parse_box ?c_parse_box ?k_parse_box ?a__law_is_layer ?l__law_is_layer ?c__law_is_layer ?k__law_is_layer ?a__law_is_name ?l__law_is_name ?c__law_is_name ?k__law_is_name ?a__law_read ?l__law_read ?c__law_read ?k__law_read ?a__law_told ?l__law_told ?c__law_told ?k__law_told ?a__law_whole ?l__law_whole ?c__law_whole ?k__law_whole ?a__law_alike ?l__law_alike ?c__law_alike ?k__law_alike ?a_Stock_names ?pq_Stock_names ?pt_Stock_names ?pr_Stock_names ?l_Stock_names ?c_Stock_names ?k_Stock_names ?a_Stock___eq__ ?i_Stock___eq__ ?l_Stock___eq__ ?c_Stock___eq__ ?k_Stock___eq__ ?a__law_is_stock ?l__law_is_stock ?c__law_is_stock ?k__law_is_stock ?a_stock_lines ?l_stock_lines ?c_stock_lines ?k_stock_lines ?a_format_stock ?l_format_stock ?c_format_stock ?k_format_stock ?a__law_stock_asked ?l__law_stock_asked ?c__law_stock_asked ?k__law_stock_asked ?a_Box___len__ ?i_Box___len__ ?l_Box___len__ ?c_Box___len__ ?k_Box___len__ ?a_Box___eq__ ?i_Box___eq__ ?l_Box___eq__ ?c_Box___eq__ ?k_Box___eq__ ?a_format_box ?l_format_box ?c_format_box ?k_format_box ?a__law_asked ?l__law_asked ?c__law_asked ?k__law_asked ?a__law_fresh ?l__law_fresh ?c__law_fresh ?k__law_fresh ?a__law_full ?l__law_full ?c__law_full ?k__law_full ?a__law_notes ?l__law_notes ?c__law_notes ?k__law_notes ?a__law_further ?l__law_further ?c__law_further ?k__law_further ?a__law_firsts ?l__law_firsts ?c__law_firsts ?k__law_firsts ?a__law_digits ?l__law_digits ?c__law_digits ?k__law_digits ?a__law_signs ?l__law_signs ?c__law_signs ?k__law_signs ?a__law_free_text ?l__law_free_text ?c__law_free_text ?k__law_free_text ?a__law_sign ?l__law_sign ?c__law_sign ?k__law_sign ?a__law_spoilt ?l__law_spoilt ?c__law_spoilt ?k__law_spoilt ?a__law_cell ?l__law_cell ?c__law_cell ?k__law_cell ?a__law_name ?l__law_name ?c__law_name ?k__law_name ?a__law_any_stamp ?l__law_any_stamp ?c__law_any_stamp ?k__law_any_stamp ?a__law_stamps ?l__law_stamps ?c__law_stamps ?k__law_stamps ?a__law_layer ?l__law_layer ?c__law_layer ?k__law_layer ?a_law ?l_law ?c_law ?k_law ?hm
    case a_StampError => k_is
    case a_BadName => k_is
    case a_BadStamp => k_is
    case a_NameTaken => k_is
    case a_UnknownName => k_is
    case a_BadNote => k_is
    case a_BadClaimText => k_is
    case a_Stock => k_is
    case a_Box => k_is
    case b_ValueError => k_is
    case b_bool => k_is
    case b_enumerate => k_is
    case b_int => k_is
    case b_isinstance => k_is
    case b_len => k_is
    case b_list => k_is
    case b_min => k_is
    case b_range => k_is
    case b_set => k_is
    case b_str => k_is
    case b_sum => k_is
    case b_tuple => k_is
    case g_DIGITS => k_is
    case g_FIGURES => k_is
    case g_LETTERS => k_is
    case g_LONGEST_NAME => k_is
    case g_MOST_BOX_STAMPS => k_is
    case g_MOST_CELLS_layers => k_is
    case g_MOST_CELLS_stocknotes => k_is
    case g_MOST_PAIRS => k_is
    case g_MOST_STAMPS => k_is
    case g_PAIR => k_is
    case g_SIGNS => k_is
    case g_STOCK_WORD => k_is
    case xl_BadNote => k_is
    case rb_BadNote => first | rfl | decide +kernel
    case xsa_BadNote => k_is
    case xe_BadNote => k_is
    case xt_BadNote => k_is
    case xk_BadNote => k_is
    case oa_BadNote => k_is
    case om_BadNote => k_is
    case ga_BadNote => k_is
    case gg_BadNote => k_is
    case xs_BadNote => k_is
    case xh_BadNote => k_is
    case pg_Stock => k_is
    case hd_Stock => k_is
    case po_Stock => k_is
    case sa_Stock => k_is
    case oa_Stock => k_is
    case om_Stock => k_is
    case tt_Stock => k_is
    case on_Stock => k_is
    case pg_Box => k_is
    case hd_Box => k_is
    case po_Box => k_is
    case sa_Box => k_is
    case oa_Box => k_is
    case om_Box => k_is
    case tt_Box => k_is
    case on_Box => k_is
    case on => k_is
    case ot => k_is
    case td_BadClaimText => k_is
    case tq_BadClaimText => k_is
    case td_BadName => k_is
    case tq_BadName => k_is
    case td_BadStamp => k_is
    case tq_BadStamp => k_is
    case td_NameTaken => k_is
    case tq_NameTaken => k_is
    case td_StampError => k_is
    case tq_StampError => k_is
    case td_UnknownName => k_is
    case tq_UnknownName => k_is
    case tb_StampError => k_is
    case sm_BadNote_StampError => k_is
    case sb_BadNote_BadClaimText => k_is
    case ne_BadNote_BadClaimText => first | rfl | decide
    case sb_BadNote_BadName => k_is
    case ne_BadNote_BadName => first | rfl | decide
    case sb_BadNote_BadStamp => k_is
    case ne_BadNote_BadStamp => first | rfl | decide
    case sb_BadNote_NameTaken => k_is
    case ne_BadNote_NameTaken => first | rfl | decide
    case sb_BadNote_UnknownName => k_is
    case ne_BadNote_UnknownName => first | rfl | decide
    case sb_BadNote_ValueError => k_is
    case n_BadNote_line => k_is
    case n_Box_pairs => k_is
    case n_Box_stock => k_is
    case n_Stock_layers => k_is
    case n_Stock_numbers => k_is
    case n_Stock_size => k_is
    case n_Stock_stamps => k_is
    case a_number_in => k_is
    case l_number_in => k_is
    case c_number_in => k_is
    case k_number_in => k_is
    case a_size_in => k_is
    case l_size_in => k_is
    case c_size_in => k_is
    case k_size_in => k_is
    case a_BadNote___init__ => k_is
    case ty_BadNote___init__ => k_is
    case l_BadNote___init__ => k_is
    case c_BadNote___init__ => k_is
    case k_BadNote___init__ => k_is
    case a_is_name => k_is
    case l_is_name => k_is
    case c_is_name => k_is
    case k_is_name => k_is
    case a_is_layer => k_is
    case l_is_layer => k_is
    case c_is_layer => k_is
    case k_is_layer => k_is
    case a_empty_layer => k_is
    case l_empty_layer => k_is
    case c_empty_layer => k_is
    case k_empty_layer => k_is
    case a_stamp_in => k_is
    case l_stamp_in => k_is
    case c_stamp_in => k_is
    case k_stamp_in => k_is
    case a_frozen => k_is
    case l_frozen => k_is
    case c_frozen => k_is
    case k_frozen => k_is
    case a_is_stamp => k_is
    case l_is_stamp => k_is
    case c_is_stamp => k_is
    case k_is_stamp => k_is
    case a_Stock___init__ => k_is
    case i_Stock___init__ => k_is
    case mk_Stock___init__ => k_is
    case kc_Stock___init__ => k_is
    case l_Stock___init__ => k_is
    case c_Stock___init__ => k_is
    case k_Stock___init__ => k_is
    case a_stock_in => k_is
    case l_stock_in => k_is
    case c_stock_in => k_is
    case k_stock_in => k_is
    case a_parse_stock => k_is
    case l_parse_stock => k_is
    case c_parse_stock => k_is
    case k_parse_stock => k_is
    case a_is_pair_line => k_is
    case l_is_pair_line => k_is
    case c_is_pair_line => k_is
    case k_is_pair_line => k_is
    case a_first_pair_line => k_is
    case l_first_pair_line => k_is
    case c_first_pair_line => k_is
    case k_first_pair_line => k_is
    case a_is_layer_of => k_is
    case l_is_layer_of => k_is
    case c_is_layer_of => k_is
    case k_is_layer_of => k_is
    case a_pair_in => k_is
    case l_pair_in => k_is
    case c_pair_in => k_is
    case k_pair_in => k_is
    case a_Box___init__ => k_is
    case i_Box___init__ => k_is
    case mk_Box___init__ => k_is
    case kc_Box___init__ => k_is
    case l_Box___init__ => k_is
    case c_Box___init__ => k_is
    case k_Box___init__ => k_is
    case a_parse_box => k_is
    case l_parse_box => k_is
    case c_parse_box => k_is
    case k_parse_box => k_is
    case a__law_is_layer => k_is
    case l__law_is_layer => k_is
    case c__law_is_layer => k_is
    case k__law_is_layer => k_is
    case a__law_is_name => k_is
    case l__law_is_name => k_is
    case c__law_is_name => k_is
    case k__law_is_name => k_is
    case a__law_read => k_is
    case l__law_read => k_is
    case c__law_read => k_is
    case k__law_read => k_is
    case a__law_told => k_is
    case l__law_told => k_is
    case c__law_told => k_is
    case k__law_told => k_is
    case a__law_whole => k_is
    case l__law_whole => k_is
    case c__law_whole => k_is
    case k__law_whole => k_is
    case a__law_alike => k_is
    case l__law_alike => k_is
    case c__law_alike => k_is
    case k__law_alike => k_is
    case a_Stock_names => k_is
    case pq_Stock_names => k_is
    case pt_Stock_names => k_is
    case pr_Stock_names => k_is
    case l_Stock_names => k_is
    case c_Stock_names => k_is
    case k_Stock_names => k_is
    case a_Stock___eq__ => k_is
    case i_Stock___eq__ => k_is
    case l_Stock___eq__ => k_is
    case c_Stock___eq__ => k_is
    case k_Stock___eq__ => k_is
    case a__law_is_stock => k_is
    case l__law_is_stock => k_is
    case c__law_is_stock => k_is
    case k__law_is_stock => k_is
    case a_stock_lines => k_is
    case l_stock_lines => k_is
    case c_stock_lines => k_is
    case k_stock_lines => k_is
    case a_format_stock => k_is
    case l_format_stock => k_is
    case c_format_stock => k_is
    case k_format_stock => k_is
    case a__law_stock_asked => k_is
    case l__law_stock_asked => k_is
    case c__law_stock_asked => k_is
    case k__law_stock_asked => k_is
    case a_Box___len__ => k_is
    case i_Box___len__ => k_is
    case l_Box___len__ => k_is
    case c_Box___len__ => k_is
    case k_Box___len__ => k_is
    case a_Box___eq__ => k_is
    case i_Box___eq__ => k_is
    case l_Box___eq__ => k_is
    case c_Box___eq__ => k_is
    case k_Box___eq__ => k_is
    case a_format_box => k_is
    case l_format_box => k_is
    case c_format_box => k_is
    case k_format_box => k_is
    case a__law_asked => k_is
    case l__law_asked => k_is
    case c__law_asked => k_is
    case k__law_asked => k_is
    case a__law_fresh => k_is
    case l__law_fresh => k_is
    case c__law_fresh => k_is
    case k__law_fresh => k_is
    case a__law_full => k_is
    case l__law_full => k_is
    case c__law_full => k_is
    case k__law_full => k_is
    case a__law_notes => k_is
    case l__law_notes => k_is
    case c__law_notes => k_is
    case k__law_notes => k_is
    case a__law_further => k_is
    case l__law_further => k_is
    case c__law_further => k_is
    case k__law_further => k_is
    case a__law_firsts => k_is
    case l__law_firsts => k_is
    case c__law_firsts => k_is
    case k__law_firsts => k_is
    case a__law_digits => k_is
    case l__law_digits => k_is
    case c__law_digits => k_is
    case k__law_digits => k_is
    case a__law_signs => k_is
    case l__law_signs => k_is
    case c__law_signs => k_is
    case k__law_signs => k_is
    case a__law_free_text => k_is
    case l__law_free_text => k_is
    case c__law_free_text => k_is
    case k__law_free_text => k_is
    case a__law_sign => k_is
    case l__law_sign => k_is
    case c__law_sign => k_is
    case k__law_sign => k_is
    case a__law_spoilt => k_is
    case l__law_spoilt => k_is
    case c__law_spoilt => k_is
    case k__law_spoilt => k_is
    case a__law_cell => k_is
    case l__law_cell => k_is
    case c__law_cell => k_is
    case k__law_cell => k_is
    case a__law_name => k_is
    case l__law_name => k_is
    case c__law_name => k_is
    case k__law_name => k_is
    case a__law_any_stamp => k_is
    case l__law_any_stamp => k_is
    case c__law_any_stamp => k_is
    case k__law_any_stamp => k_is
    case a__law_stamps => k_is
    case l__law_stamps => k_is
    case c__law_stamps => k_is
    case k__law_stamps => k_is
    case a__law_layer => k_is
    case l__law_layer => k_is
    case c__law_layer => k_is
    case k__law_layer => k_is
    case a_law => k_is
    case l_law => k_is
    case c_law => k_is
    case k_law => k_is
    case hm => exact fun c ns _ _ => LK.law_true ns

