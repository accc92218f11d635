import PyProof.Rows.All
import Wide.All
import OpenK.AllK
import Wide.FinOn
import HandS.ForMost
import HandS.Exc
import HandS.ExcOwn
import HandS.ExcInit
import HandS.TryMany
import HandS.IsInst
import HandS.Wide
import HandS.Small
import HandS.RaiseMore
import HandS.Conv
import HandS.Deep
import KE.SortData
import KE.GoesEnum
import HandS.TupAny
import HandS.NoneIn
import HandS.Star
import HandS.ExcField
import HandS.WordsExc
import HandS.Style
import KE.DataEq
import PyProof.Rows.SortShell
import HandS.SetFor
import HandS.Strs
import PySem.Challenge.RW_whotouches_k67_orders_listed_and_numbere
set_option Elab.async false
set_option linter.all false
set_option maxRecDepth 100000
set_option maxHeartbeats 4000000
/-! The data layer: programs read as plain functions of data. -/
noncomputable section
namespace DL
open PySem PySem.Spec PyProof.Rows L2

abbrev St := L2.St
abbrev D := PyData
/-- what a slot holds: data that never changes, a list of our own, a list that was lent -/
inductive DV where
  | imm (d : D) | own (xs : List D) | lent (xs : List D) | exc
abbrev SD := List (Option DV)
/-- a slot read, a slot set: by the recursors alone (the kernel walks them in few steps) -/
def getS (s : SD) : Nat → Option (Option DV) := List.rec (motive := fun _ => Nat → Option (Option DV)) (fun _ => none) (fun x _ ih n => Nat.rec (motive := fun _ => Option (Option DV)) (some x) (fun m _ => ih m) n) s
def setS (s : SD) (i : Nat) (v : Option DV) : SD := List.rec (motive := fun _ => Nat → SD) (fun _ => []) (fun x r ih n => Nat.rec (motive := fun _ => SD) (v :: r) (fun m _ => x :: ih m) n) s i
theorem getS_eq : ∀ (s : SD) (i : Nat), getS s i = s[i]?
  | [], _ => rfl
  | _ :: _, 0 => rfl
  | _ :: r, i + 1 => getS_eq r i
theorem setS_eq (v : Option DV) : ∀ (s : SD) (i : Nat), setS s i v = s.set i v
  | [], _ => rfl
  | _ :: _, 0 => rfl
  | x :: r, i + 1 => congrArg (x :: ·) (setS_eq v r i)
/-- what an expression hands on -/
inductive RV where
  | imm (d : D) | tmp (xs : List D) | slot (i : Nat)
structure DExc where
  cls : Nat
  arg : Option D
inductive R (α : Type) where
  | ok (a : α) (s : SD) | ex (e : DExc) (s : SD) | no
inductive RS where
  | nx (s : SD) | bk (s : SD) | ct (s : SD) | rt (r : RV) (s : SD) | ex (e : DExc) (s : SD) | no
inductive AV where
  | imm (d : D) | lent (xs : List D)
inductive RF where
  | ret (r : RV) (as : List AV) | exc (e : DExc) (as : List AV) | no
def R.bind {α β : Type} (r : R α) (g : α → SD → R β) : R β := match r with
  | .ok a s => g a s
  | .ex e s => .ex e s
  | .no => .no

/-! ### data in a heap -/
mutual
inductive Dp (K : PySem.W.Frag) (B : Hp) : V → D → Prop
  | non : Dp K B .non .none
  | bl (b : Bool) : Dp K B (.bl b) (.bool b)
  | int (i : Int) : Dp K B (.int i) (.int i)
  | str (x : Str) : Dp K B (.str x) (.str x)
  | lst {a : Addr} {xs : List V} {ds : List D} : SqL K B a xs → DpAll K B xs ds → Dp K B (.ref a) (.list ds)
  | tup {a : Addr} {xs : List V} {ds : List D} : SqT K B a xs → DpAll K B xs ds → Dp K B (.ref a) (.tuple ds)
inductive DpAll (K : PySem.W.Frag) (B : Hp) : List V → List D → Prop
  | nil : DpAll K B [] []
  | cons {v : V} {vs : List V} {d : D} {ds : List D} : Dp K B v d → DpAll K B vs ds → DpAll K B (v :: vs) (d :: ds)
end
theorem rd_same {B B' : Hp} {a : Addr} {u : HO} (e : Same B B') (h : Rd B a u) : Rd B' a u := by
  rcases h with h | ⟨o, h⟩
  · exact .inl (e _ _ h)
  · exact .inr ⟨o, e _ _ h⟩
theorem sqL_same {K : PySem.W.Frag} {B B' : Hp} {a : Addr} {xs : List V} (e : Same B B') (h : SqL K B a xs) : SqL K B' a xs := by
  rcases h with h | h
  · exact .inl (rd_same e h)
  · exact .inr h
mutual
theorem dp_l2 {K : PySem.W.Frag} {B : Hp} : ∀ (d : D) (v : V), Dp K B v d → L2.Dp K B v d
  | .none, _, h => by cases h; exact .non
  | .bool b, _, h => by cases h; exact .bl b
  | .int i, _, h => by cases h; exact .int i
  | .str x, _, h => by cases h; exact .str x
  | .list ds, _, h => by
    cases h with
    | lst hs ha => exact .lst hs (dps_l2 ds _ ha)
  | .tuple ds, _, h => by
    cases h with
    | tup hs ha => exact .tup hs (dps_l2 ds _ ha)
  | .dict _, _, h => by cases h
theorem dps_l2 {K : PySem.W.Frag} {B : Hp} : ∀ (ds : List D) (vs : List V), DpAll K B vs ds → L2.DpAll K B vs ds
  | [], _, h => by cases h; exact .nil
  | d :: ds, _, h => by
    cases h with
    | cons h1 h2 => exact .cons (dp_l2 d _ h1) (dps_l2 ds _ h2)
end
theorem sqT_same {K : PySem.W.Frag} {B B' : Hp} {a : Addr} {xs : List V} (e : Same B B') (h : SqT K B a xs) : SqT K B' a xs := by
  rcases h with (h | ⟨o, h⟩) | h
  · exact .inl (.inl (e _ _ h))
  · exact .inl (.inr ⟨o, e _ _ h⟩)
  · exact .inr h
mutual
theorem dp_same {K : PySem.W.Frag} {B B' : Hp} (e : Same B B') : ∀ (d : D) (v : V), Dp K B v d → Dp K B' v d
  | .none, _, h => by cases h; exact .non
  | .bool b, _, h => by cases h; exact .bl b
  | .int i, _, h => by cases h; exact .int i
  | .str x, _, h => by cases h; exact .str x
  | .list ds, _, h => by
    cases h with
    | lst hs ha => exact .lst (sqL_same e hs) (dps_same e ds _ ha)
  | .tuple ds, _, h => by
    cases h with
    | tup hs ha => exact .tup (sqT_same e hs) (dps_same e ds _ ha)
  | .dict _, _, h => by cases h
theorem dps_same {K : PySem.W.Frag} {B B' : Hp} (e : Same B B') : ∀ (ds : List D) (vs : List V), DpAll K B vs ds → DpAll K B' vs ds
  | [], _, h => by cases h; exact .nil
  | d :: ds, _, h => by
    cases h with
    | cons h1 h2 => exact .cons (dp_same e d _ h1) (dps_same e ds _ h2)
end
theorem dps_len {K : PySem.W.Frag} {B : Hp} : ∀ {vs : List V} {ds : List D}, DpAll K B vs ds → vs.length = ds.length
  | _, _, .nil => rfl
  | _, _, .cons _ t => congrArg (· + 1) (dps_len t)
theorem dps_app {K : PySem.W.Frag} {B : Hp} : ∀ {vs ws : List V} {ds es : List D}, DpAll K B vs ds → DpAll K B ws es → DpAll K B (vs ++ ws) (ds ++ es)
  | _, _, _, _, .nil, h => h
  | _, _, _, _, .cons a t, h => .cons a (dps_app t h)
theorem dps_get {K : PySem.W.Frag} {B : Hp} : ∀ {vs : List V} {ds : List D} {i : Nat} {d : D}, DpAll K B vs ds → ds[i]? = some d → ∃ v, vs[i]? = some v ∧ Dp K B v d
  | _, _, 0, _, .cons a _, h => by
    have e := Option.some.inj h
    subst e
    exact ⟨_, rfl, a⟩
  | _, _, i + 1, d, .cons _ t, h => dps_get (i := i) t h
  | _, _, i, _, .nil, h => by simp at h
theorem dps_set {K : PySem.W.Frag} {B : Hp} {v : V} {d : D} (r : Dp K B v d) : ∀ {vs : List V} {ds : List D} (i : Nat), DpAll K B vs ds → DpAll K B (vs.set i v) (ds.set i d)
  | _, _, _, .nil => .nil
  | _, _, 0, .cons _ t => .cons r t
  | _, _, i + 1, .cons q t => .cons q (dps_set r i t)
theorem dps_take {K : PySem.W.Frag} {B : Hp} : ∀ {vs : List V} {ds : List D} (n : Nat), DpAll K B vs ds → DpAll K B (vs.take n) (ds.take n)
  | _, _, 0, _ => .nil
  | _, _, _ + 1, .nil => .nil
  | _, _, n + 1, .cons r t => .cons r (dps_take n t)
theorem dps_drop {K : PySem.W.Frag} {B : Hp} : ∀ {vs : List V} {ds : List D} (n : Nat), DpAll K B vs ds → DpAll K B (vs.drop n) (ds.drop n)
  | _, _, 0, r => r
  | _, _, _ + 1, .nil => .nil
  | _, _, n + 1, .cons _ t => dps_drop n t
theorem same_upd {H : Hp} {p : Addr} {o : HO} (h : H p = none) : Same H (upd H p o) := fun b x e => by
  rw [upd_ne (ne_of_none e h)]
  exact e

/-! ### a def's frame: what stood at its entry, the lists that were lent -/
structure Pr where
  K : PySem.W.Frag
  Z : Hp
  B0 : Hp
  L : Nat → Option Addr
  C : Nat → Option Addr
  fld : Nat → Str
  xa : Option Addr
def SlotOk (p : Pr) (B H : Hp) (i : Nat) (v : Option V) : Option DV → Prop
  | none => p.L i = none
  | some (.imm d) => p.L i = none ∧ ∃ x, v = some x ∧ Dp p.K B x d
  | some (.own xs) => p.L i = none ∧ ∃ a vs, v = some (.ref a) ∧ p.Z a = none ∧ H a = some (.lst vs) ∧ B a = none ∧ DpAll p.K B vs xs
  | some (.lent xs) => ∃ a vs, p.L i = some a ∧ v = some (.ref a) ∧ H a = some (.lst vs) ∧ B a = none ∧ DpAll p.K B vs xs
  | some .exc => p.L i = none ∧ ∃ a, p.xa = some a ∧ v = some (.ref a)
def Owns (σ : St) (s : SD) (i : Nat) (a : Addr) : Prop := σ[i]? = some (some (.ref a)) ∧ ∃ xs, s[i]? = some (some (.own xs)) ∨ s[i]? = some (some (.lent xs))
structure StOk (p : Pr) (B H : Hp) (σ : St) (s : SD) : Prop where
  len : σ.length = s.length
  slot : ∀ (i : Nat) dv v, s[i]? = some dv → σ[i]? = some v → SlotOk p B H i v dv
  sep : ∀ (i j : Nat) a, Owns σ s i a → Owns σ s j a → i = j
  b0 : Same p.B0 B
  bh : Same B H
  fr : ∀ b o, p.Z b = some o → (∀ i, p.L i ≠ some b) → H b = some o
  dom : ∀ b, H b = none → p.Z b = none
  new : ∀ b, p.Z b ≠ none → p.B0 b = none → B b = none
theorem StOk.owned {p : Pr} {B H : Hp} {σ : St} {s : SD} (h : StOk p B H σ s) {i : Nat} {a : Addr} (o : Owns σ s i a) : ∃ vs xs, H a = some (.lst vs) ∧ B a = none ∧ DpAll p.K B vs xs ∧ (s[i]? = some (some (.own xs)) ∨ s[i]? = some (some (.lent xs))) := by
  obtain ⟨e, xs, q | q⟩ := o
  · obtain ⟨_, a', vs, e', _, h1, h2, h3⟩ := h.slot i _ _ q e
    have ea : a = a' := by simpa using e'
    subst ea
    exact ⟨vs, xs, h1, h2, h3, .inl q⟩
  · obtain ⟨a', vs, _, e', h1, h2, h3⟩ := h.slot i _ _ q e
    have ea : a = a' := by simpa using e'
    subst ea
    exact ⟨vs, xs, h1, h2, h3, .inr q⟩

/-- from one state to a later one within an expression -/
structure Ext (σ : St) (s s' : SD) (B H B' H' : Hp) : Prop where
  bb : Same B B'
  hh : ∀ b o, H b = some o → (∀ i, ¬ Owns σ s i b) → H' b = some o
  dom : ∀ b, H' b = none → H b = none
  new : ∀ b, H b ≠ none → B b = none → B' b = none
  own : ∀ i a, Owns σ s' i a → Owns σ s i a
theorem Ext.refl {σ : St} {s : SD} {B H : Hp} : Ext σ s s B H B H := ⟨Same.refl _, fun _ _ h _ => h, fun _ h => h, fun _ _ h => h, fun _ _ h => h⟩
theorem Ext.trans {σ : St} {s s1 s2 : SD} {B H B1 H1 B2 H2 : Hp} (a : Ext σ s s1 B H B1 H1) (b : Ext σ s1 s2 B1 H1 B2 H2) : Ext σ s s2 B H B2 H2 where
  bb := a.bb.trans b.bb
  hh := fun c o h n => b.hh c o (a.hh c o h n) fun i q => n i (a.own i c q)
  dom := fun c h => a.dom c (b.dom c h)
  new := fun c h n => b.new c (fun z => h (a.dom c z)) (a.new c h n)
  own := fun i c h => a.own i c (b.own i c h)

/-- an exception as it lies -/
def ExAt (K : PySem.W.Frag) (C : Nat → Option Addr) (fld : Nat → Str) (Z B H : Hp) (e : DExc) (cls : Value) (d : Option Addr) : Prop :=
  ∃ c, C e.cls = some c ∧ cls = .ref c ∧ match e.arg with
    | none => d = none
    | some x => ∃ (a : Addr) (v : V), d = some a ∧ Z a = none ∧ B a = none ∧ H a = some (.xd [(fld e.cls, v)]) ∧ Dp K B v x
def ExOk (p : Pr) (B H : Hp) (e : DExc) (cls : Value) (d : Option Addr) : Prop := ExAt p.K p.C p.fld p.Z B H e cls d

def run {α : Type} (p : Pr) (W : WX) (σ : St) (s : SD) (B H : Hp) (r : R α) (k : α → SD → Hp → Hp → Prop) : Prop := match r with
  | .ok a s' => ∀ B' H', Ext σ s s' B H B' H' → StOk p B' H' σ s' → k a s' B' H'
  | .ex e s' => ∀ B' H' cls d, Ext σ s s' B H B' H' → StOk p B' H' σ s' → ExOk p B' H' e cls d → W cls d σ H'
  | .no => False
section
variable {α β : Type} {p : Pr} {W : WX} {σ : St} {s : SD} {B H : Hp}
theorem run_mono {r : R α} {k k' : α → SD → Hp → Hp → Prop} (h : run p W σ s B H r k) (hk : ∀ a s' B' H', Ext σ s s' B H B' H' → StOk p B' H' σ s' → k a s' B' H' → k' a s' B' H') : run p W σ s B H r k' := by
  cases r with
  | ok a s' => exact fun B' H' x y => hk a s' B' H' x y (h B' H' x y)
  | ex e s' => exact h
  | no => exact h
theorem run_later {s1 : SD} {B1 H1 : Hp} {r : R α} {k : α → SD → Hp → Hp → Prop} (e : Ext σ s s1 B H B1 H1) (h : run p W σ s B H r k) : run p W σ s1 B1 H1 r k := by
  cases r with
  | ok a s' => exact fun B' H' x y => h B' H' (e.trans x) y
  | ex e' s' => exact fun B' H' cls d x y z => h B' H' cls d (e.trans x) y z
  | no => exact h
theorem run_bind {r : R α} {g : α → SD → R β} {k : β → SD → Hp → Hp → Prop} (h : run p W σ s B H (r.bind g) k) : run p W σ s B H r fun a s1 B1 H1 => run p W σ s1 B1 H1 (g a s1) k := by
  cases r with
  | ok a s' => exact fun B' H' x y => run_later x h
  | ex e s' => exact h
  | no => exact h
end

/-- a value as it was handed on; H0: the heap ahead of the expression -/
def RvOk (p : Pr) (H0 : Hp) (σ : St) (s : SD) (B H : Hp) (v : V) : RV → Prop
  | .imm d => Dp p.K B v d
  | .tmp xs => ∃ a vs, v = .ref a ∧ H0 a = none ∧ H a = some (.lst vs) ∧ B a = none ∧ DpAll p.K B vs xs ∧ ∀ i, ¬ Owns σ s i a
  | .slot i => σ[i]? = some (some v)
theorem RvOk.later {p : Pr} {H0 : Hp} {σ : St} {s s' : SD} {B H B' H' : Hp} {v : V} : ∀ {r : RV}, RvOk p H0 σ s B H v r → Ext σ s s' B H B' H' → RvOk p H0 σ s' B' H' v r
  | .imm _, h, e => dp_same e.bb _ _ h
  | .tmp _, ⟨a, vs, h1, h2, h3, h4, h5, h6⟩, e => ⟨a, vs, h1, h2, e.hh _ _ h3 h6, e.new _ (by rw [h3]; exact fun z => nomatch z) h4, dps_same e.bb _ _ h5, fun i q => h6 i (e.own i a q)⟩
  | .slot _, h, _ => h
theorem RvOk.back {p : Pr} {H0 H00 : Hp} {σ : St} {s : SD} {B H : Hp} {v : V} (d : ∀ b, H0 b = none → H00 b = none) : ∀ {r : RV}, RvOk p H0 σ s B H v r → RvOk p H00 σ s B H v r
  | .imm _, h => h
  | .tmp _, ⟨a, vs, h1, h2, h3, h4, h5, h6⟩ => ⟨a, vs, h1, d _ h2, h3, h4, h5, h6⟩
  | .slot _, h => h

/-! ### judgements -/
abbrev FE := SD → R RV
abbrev FT := SD → R Bool
abbrev FA := SD → R (List RV)
abbrev FS := SD → RS
def tE (p : Pr) (W : WX) (f : FE) : TE := fun σ H Q => ∃ B s, StOk p B H σ s ∧ run p W σ s B H (f s) fun r s' B' H' => ∀ v, RvOk p H σ s' B' H' v r → Q v H'
def tT (p : Pr) (W : WX) (f : FT) : TT := fun σ H Q => ∃ B s, StOk p B H σ s ∧ run p W σ s B H (f s) fun b s' B' H' => Q b H'
inductive RvsOk (p : Pr) (H0 : Hp) (σ : St) (s : SD) (B H : Hp) : List V → List RV → Prop
  | nil : RvsOk p H0 σ s B H [] []
  | cons {v : V} {vs : List V} {r : RV} {rs : List RV} : RvOk p H0 σ s B H v r → RvsOk p H0 σ s B H vs rs → RvsOk p H0 σ s B H (v :: vs) (r :: rs)
def tA (p : Pr) (W : WX) (f : FA) : TA := fun σ H Q => ∃ B s, StOk p B H σ s ∧ run p W σ s B H (f s) fun rs s' B' H' => ∀ vs, RvsOk p H σ s' B' H' vs rs → Q vs H'
theorem PE.imp {X : Cx} {e : Expr} {t t' : TE} (h : PE X e t) (f : ∀ σ H Q, t' σ H Q → t σ H Q) : PE X e t' := ⟨fun pins s σ H Q I q => h.run pins s σ H Q I (f _ _ _ q)⟩
theorem PT.imp {X : Cx} {e : Expr} {t t' : TT} (h : PT X e t) (f : ∀ σ H Q, t' σ H Q → t σ H Q) : PT X e t' := ⟨fun pins s σ H Q I q => h.run pins s σ H Q I (f _ _ _ q)⟩
theorem PW.imp {X : Cx} {e : Expr} {t t' : TT} (h : PW X e t) (f : ∀ σ H Q, t' σ H Q → t σ H Q) : PW X e t' := ⟨fun w pins s σ H Q I q => h.run w pins s σ H Q I (f _ _ _ q)⟩
theorem PA.imp {X : Cx} {es : List Expr} {t t' : TA} (h : PA X es t) (f : ∀ σ H Q, t' σ H Q → t σ H Q) : PA X es t' := ⟨fun pos pins s σ H Q I q => h.run pos pins s σ H Q I (f _ _ _ q)⟩
theorem PS.imp {X : Cx} {st : Stmt} {t t' : TS} (h : PS X st t) (f : ∀ D σ H, t' D σ H → t D σ H) : PS X st t' := ⟨fun pins s σ H D I q => h.run pins s σ H D I (f _ _ _ q)⟩
theorem PSs.imp {X : Cx} {st : List Stmt} {t t' : TS} (h : PSs X st t) (f : ∀ D σ H, t' D σ H → t D σ H) : PSs X st t' := ⟨fun pins s σ H D I q => h.run pins s σ H D I (f _ _ _ q)⟩
/-- what follows -/
def sat (p : Pr) (W : WX) (B : Hp) (D : Ends) : RS → Prop
  | .nx s' => ∀ σ' B' H', Same B B' → StOk p B' H' σ' s' → D.nx σ' H'
  | .bk s' => ∀ σ' B' H', Same B B' → StOk p B' H' σ' s' → D.bk σ' H'
  | .ct s' => ∀ σ' B' H', Same B B' → StOk p B' H' σ' s' → D.ct σ' H'
  | .rt r s' => ∀ σ' B' H' v, Same B B' → StOk p B' H' σ' s' → RvOk p p.Z σ' s' B' H' v r → D.rt v H'
  | .ex e s' => ∀ σ' B' H' cls d, Same B B' → StOk p B' H' σ' s' → ExOk p B' H' e cls d → W cls d σ' H'
  | .no => False
theorem sat_later {p : Pr} {W : WX} {B B1 : Hp} {D : Ends} (e : Same B B1) : ∀ {r : RS}, sat p W B D r → sat p W B1 D r
  | .nx _, h => fun σ' B' H' x => h σ' B' H' (e.trans x)
  | .bk _, h => fun σ' B' H' x => h σ' B' H' (e.trans x)
  | .ct _, h => fun σ' B' H' x => h σ' B' H' (e.trans x)
  | .rt _ _, h => fun σ' B' H' v x => h σ' B' H' v (e.trans x)
  | .ex _ _, h => fun σ' B' H' c d x => h σ' B' H' c d (e.trans x)
  | .no, h => h
def tS (p : Pr) (W : WX) (f : FS) : TS := fun D σ H => ∃ B s, StOk p B H σ s ∧ sat p W B D (f s)
end DL
end

set_option Elab.async false
set_option linter.all false
set_option maxRecDepth 100000
set_option maxHeartbeats 4000000
noncomputable section
namespace DL
open PySem PySem.Spec PyProof.Rows L2

/-! ### states that grow -/
theorem StOk.grow {p : Pr} {B H B' H' : Hp} {σ : St} {s : SD} (ok : StOk p B H σ s) (bb : Same B B') (bh : Same B' H') (hh : Same H H') (new : ∀ b, H b ≠ none → B b = none → B' b = none) : StOk p B' H' σ s where
  len := ok.len
  slot := fun i dv v h1 h2 => by
    have q := ok.slot i dv v h1 h2
    match dv, q with
    | none, q => exact q
    | some (.imm d), ⟨l, x, e, r⟩ => exact ⟨l, x, e, dp_same bb _ _ r⟩
    | some (.own xs), ⟨l, a, vs, e, z, h, n, r⟩ => exact ⟨l, a, vs, e, z, hh _ _ h, new a (by rw [h]; exact fun z => nomatch z) n, dps_same bb _ _ r⟩
    | some (.lent xs), ⟨a, vs, l, e, h, n, r⟩ => exact ⟨a, vs, l, e, hh _ _ h, new a (by rw [h]; exact fun z => nomatch z) n, dps_same bb _ _ r⟩
    | some .exc, q => exact q
  sep := ok.sep
  b0 := ok.b0.trans bb
  bh := bh
  fr := fun b o h n => hh _ _ (ok.fr b o h n)
  dom := fun b h => ok.dom b (hh.free h)
  new := fun b h n => new b (fun z => h (ok.dom b z)) (ok.new b h n)
theorem upd_none {H : Hp} {p b : Addr} {o : HO} (h : upd H p o b = none) : H b = none := by
  by_cases e : b = p
  · rw [e, upd_same] at h
    cases h
  · rw [upd_ne e] at h
    exact h
theorem same_upd2 {B H : Hp} {p : Addr} {o : HO} (h : Same B H) : Same (upd B p o) (upd H p o) := fun b x e => by
  by_cases q : b = p
  · subst q
    rw [upd_same] at e ⊢
    exact e
  · rw [upd_ne q] at e ⊢
    exact h b x e
theorem same_updH {B H : Hp} {p : Addr} {o : HO} (h : Same B H) (n : H p = none) : Same B (upd H p o) := h.trans (same_upd n)
theorem StOk.newB {p : Pr} {B H : Hp} {σ : St} {s : SD} {q : Addr} {o : HO} (ok : StOk p B H σ s) (n : H q = none) : StOk p (upd B q o) (upd H q o) σ s :=
  ok.grow (same_upd (ok.bh.free n)) (same_upd2 ok.bh) (same_upd n) fun b h e => by
    rw [upd_ne (fun z => h (by rw [z]; exact n))]
    exact e
theorem StOk.newH {p : Pr} {B H : Hp} {σ : St} {s : SD} {q : Addr} {o : HO} (ok : StOk p B H σ s) (n : H q = none) : StOk p B (upd H q o) σ s :=
  ok.grow (Same.refl _) (same_updH ok.bh n) (same_upd n) fun b h e => e
theorem Ext.newB {B H : Hp} {σ : St} {s : SD} {q : Addr} {o : HO} (bh : Same B H) (n : H q = none) : Ext σ s s B H (upd B q o) (upd H q o) :=
  ⟨same_upd (bh.free n), fun b x h _ => same_upd n b x h, fun b h => upd_none h, fun b h e => by
    rw [upd_ne (fun z => h (by rw [z]; exact n))]
    exact e, fun _ _ h => h⟩
theorem Ext.newH {B H : Hp} {σ : St} {s : SD} {q : Addr} {o : HO} (n : H q = none) : Ext σ s s B H B (upd H q o) :=
  ⟨Same.refl _, fun b x h _ => same_upd n b x h, fun b h => upd_none h, fun _ _ e => e, fun _ _ h => h⟩
theorem StOk.notOwn {p : Pr} {B H : Hp} {σ : St} {s : SD} {q : Addr} (ok : StOk p B H σ s) (n : H q = none) (i : Nat) : ¬ Owns σ s i q := fun z => by
  obtain ⟨vs, xs, h, _⟩ := ok.owned z
  rw [n] at h
  cases h

/-! ### what is read of a value -/
def view (s : SD) : RV → Option D
  | .imm d => some d
  | .tmp xs => some (.list xs)
  | .slot i => match getS s i with
    | some (some (.own xs)) => some (.list xs)
    | some (some (.lent xs)) => some (.list xs)
    | _ => none
def Vw (K : PySem.W.Frag) (B H : Hp) (v : V) (d : D) : Prop := Dp K B v d ∨ ∃ a vs xs, v = .ref a ∧ d = .list xs ∧ H a = some (.lst vs) ∧ DpAll K B vs xs
inductive VsAll (K : PySem.W.Frag) (B H : Hp) : List V → List D → Prop
  | nil : VsAll K B H [] []
  | cons {v : V} {vs : List V} {d : D} {ds : List D} : Vw K B H v d → VsAll K B H vs ds → VsAll K B H (v :: vs) (d :: ds)
theorem vw_of {p : Pr} {H0 : Hp} {σ : St} {s : SD} {B H : Hp} {v : V} {r : RV} {d : D} (h : RvOk p H0 σ s B H v r) (ok : StOk p B H σ s) (e : view s r = some d) : Vw p.K B H v d := by
  cases r with
  | imm d' =>
    cases e
    exact .inl h
  | tmp xs =>
    cases e
    obtain ⟨a, vs, h1, h2, h3, h4, h5, h6⟩ := h
    exact .inr ⟨a, vs, xs, h1, rfl, h3, h5⟩
  | slot i =>
    have h : σ[i]? = some (some v) := h
    unfold view at e
    simp only [getS_eq] at e
    split at e
    · rename_i xs q
      cases e
      obtain ⟨_, a, vs, e', _, h1, h2, h3⟩ := ok.slot i _ _ q h
      cases e'
      exact .inr ⟨a, vs, xs, rfl, rfl, h1, h3⟩
    · rename_i xs q
      cases e
      obtain ⟨a, vs, _, e', h1, h2, h3⟩ := ok.slot i _ _ q h
      cases e'
      exact .inr ⟨a, vs, xs, rfl, rfl, h1, h3⟩
    · cases e
theorem Vw.dp {K : PySem.W.Frag} {B H : Hp} {v : V} {d : D} (bh : Same B H) (h : Vw K B H v d) : Dp K H v d := by
  rcases h with h | ⟨a, vs, xs, rfl, rfl, h1, h2⟩
  · exact dp_same bh _ _ h
  · exact .lst (.inl (Rd.of h1)) (dps_same bh _ _ h2)
theorem Vw.list {K : PySem.W.Frag} {B H : Hp} {v : V} {xs : List D} (bh : Same B H) (h : Vw K B H v (.list xs)) : ∃ a vs, v = .ref a ∧ SqL K H a vs ∧ DpAll K B vs xs := by
  rcases h with h | ⟨a, vs, ys, rfl, e, h1, h2⟩
  · cases h with
    | lst hs ha => exact ⟨_, _, rfl, sqL_same bh hs, ha⟩
  · cases e
    exact ⟨a, vs, rfl, .inl (Rd.of h1), h2⟩
theorem Vw.tup {K : PySem.W.Frag} {B H : Hp} {v : V} {xs : List D} (bh : Same B H) (h : Vw K B H v (.tuple xs)) : ∃ a vs, v = .ref a ∧ SqT K H a vs ∧ DpAll K B vs xs := by
  rcases h with h | ⟨a, vs, ys, rfl, e, h1, h2⟩
  · cases h with
    | tup hs ha => exact ⟨_, _, rfl, sqT_same bh hs, ha⟩
  · cases e
theorem Vw.int {K : PySem.W.Frag} {B H : Hp} {v : V} {i : Int} (h : Vw K B H v (.int i)) : v = .int i := by
  rcases h with h | ⟨a, vs, ys, rfl, e, h1, h2⟩
  · cases h; rfl
  · cases e
theorem Vw.bool {K : PySem.W.Frag} {B H : Hp} {v : V} {i : Bool} (h : Vw K B H v (.bool i)) : v = .bl i := by
  rcases h with h | ⟨a, vs, ys, rfl, e, h1, h2⟩
  · cases h; rfl
  · cases e
theorem Vw.str {K : PySem.W.Frag} {B H : Hp} {v : V} {i : Str} (h : Vw K B H v (.str i)) : v = .str i := by
  rcases h with h | ⟨a, vs, ys, rfl, e, h1, h2⟩
  · cases h; rfl
  · cases e
theorem Vw.non {K : PySem.W.Frag} {B H : Hp} {v : V} (h : Vw K B H v .none) : v = .non := by
  rcases h with h | ⟨a, vs, ys, rfl, e, h1, h2⟩
  · cases h; rfl
  · cases e
def views (s : SD) : List RV → Option (List D)
  | [] => some []
  | r :: rs => match view s r, views s rs with
    | some d, some ds => some (d :: ds)
    | _, _ => none
theorem vws_of {p : Pr} {H0 : Hp} {σ : St} {s : SD} {B H : Hp} (ok : StOk p B H σ s) : ∀ {vs : List V} {rs : List RV} {ds : List D}, RvsOk p H0 σ s B H vs rs → views s rs = some ds → VsAll p.K B H vs ds
  | _, _, _, .nil, e => by
    cases e
    exact .nil
  | _, _, _, .cons h t, e => by
    unfold views at e
    split at e
    · rename_i d ds e1 e2
      cases e
      exact .cons (vw_of h ok e1) (vws_of ok t e2)
    · cases e
theorem RvsOk.later {p : Pr} {H0 : Hp} {σ : St} {s s' : SD} {B H B' H' : Hp} (e : Ext σ s s' B H B' H') : ∀ {vs : List V} {rs : List RV}, RvsOk p H0 σ s B H vs rs → RvsOk p H0 σ s' B' H' vs rs
  | _, _, .nil => .nil
  | _, _, .cons h t => .cons (h.later e) (t.later e)
theorem RvsOk.back {p : Pr} {H0 H00 : Hp} {σ : St} {s : SD} {B H : Hp} (d : ∀ b, H0 b = none → H00 b = none) : ∀ {vs : List V} {rs : List RV}, RvsOk p H0 σ s B H vs rs → RvsOk p H00 σ s B H vs rs
  | _, _, .nil => .nil
  | _, _, .cons h t => .cons (h.back d) (t.back d)

/-! ### operations by data -/
inductive PO where
  | val (d : D) | tup (ds : List D) | lst (ds : List D)
def poR (s : SD) : PO → R RV
  | .val d => .ok (.imm d) s
  | .tup ds => .ok (.imm (.tuple ds)) s
  | .lst ds => .ok (.tmp ds) s
def poPost (K : PySem.W.Frag) (B H : Hp) (Q : VK) : PO → Prop
  | .val d => ∀ v, Dp K B v d → Q v H
  | .tup ds => ∀ p vs, H p = none → DpAll K B vs ds → Q (.ref p) (upd H p (.tup vs))
  | .lst ds => ∀ p vs, H p = none → DpAll K B vs ds → Q (.ref p) (upd H p (.lst vs))
theorem po_post {p : Pr} {W : WX} {σ : St} {s : SD} {B H H0 : Hp} {Q : VK} (ok : StOk p B H σ s) (d0 : ∀ b, H b = none → H0 b = none) :
    ∀ {o : PO}, (run p W σ s B H (poR s o) fun r s' B' H' => ∀ v, RvOk p H0 σ s' B' H' v r → Q v H') → poPost p.K B H Q o
  | .val d, h => fun v hv => h B H .refl ok v hv
  | .tup ds, h => fun q vs n hv => h (upd B q (.tup vs)) (upd H q (.tup vs)) (.newB ok.bh n) (ok.newB n) _ (Dp.tup (SqT.of upd_same) (dps_same (same_upd (ok.bh.free n)) _ _ hv))
  | .lst ds, h => fun q vs n hv => h B (upd H q (.lst vs)) (.newH n) (ok.newH n) _ ⟨q, vs, rfl, d0 _ n, upd_same, ok.bh.free n, hv, ok.notOwn n⟩
def PrimOk (K : PySem.W.Frag) (r : List V → Hp → VK → Prop) (h : List D → Option PO) : Prop :=
  ∀ (B H : Hp) (vs : List V) (ds : List D) (o : PO) (Q : VK), Same B H → VsAll K B H vs ds → h ds = some o → poPost K B H Q o → r vs H Q
def Prim1 (K : PySem.W.Frag) (r : V → Hp → VK → Prop) (h : D → Option PO) : Prop :=
  ∀ (B H : Hp) (v : V) (d : D) (o : PO) (Q : VK), Same B H → Vw K B H v d → h d = some o → poPost K B H Q o → r v H Q
def Prim2 (K : PySem.W.Frag) (r : R2) (h : D → D → Option PO) : Prop :=
  ∀ (B H : Hp) (v w : V) (d e : D) (o : PO) (Q : VK), Same B H → Vw K B H v d → Vw K B H w e → h d e = some o → poPost K B H Q o → r v w H Q
def oR (s : SD) : Option PO → R RV
  | some o => poR s o
  | none => .no
def f1 (h : D → Option PO) (f : FE) : FE := fun s => (f s).bind fun r s1 => match view s1 r with
  | some d => oR s1 (h d)
  | none => .no
def f2 (h : D → D → Option PO) (f g : FE) : FE := fun s => (f s).bind fun r1 s1 => (g s1).bind fun r2 s2 => match view s2 r1, view s2 r2 with
  | some d, some e => oR s2 (h d e)
  | _, _ => .no
def fCall (h : List D → Option PO) (f : FA) : FE := fun s => (f s).bind fun rs s1 => match views s1 rs with
  | some ds => oR s1 (h ds)
  | none => .no
section
variable {X : Cx} {p : Pr} {W : WX} {σ : St} {H : Hp} {Q : VK} {f g : FE}
theorem t1_of {r : V → Hp → VK → Prop} {h : D → Option PO} (ho : Prim1 p.K r h) (q : tE p W (f1 h f) σ H Q) : tUn r (tE p W f) σ H Q := by
  obtain ⟨B, s, ok, q⟩ := q
  refine ⟨B, s, ok, run_mono (run_bind q) fun r1 s1 B1 H1 x1 ok1 k v hv => ?_⟩
  revert k
  cases ev : view s1 r1 with
  | none => exact fun k => k.elim
  | some d =>
    cases eh : h d with
    | none =>
      intro k
      simp only [eh] at k
      exact k.elim
    | some o =>
      intro k
      simp only [eh] at k
      exact ho B1 H1 v d o Q ok1.bh (vw_of hv ok1 ev) eh (po_post ok1 x1.dom k)
theorem t2_of {r : R2} {h : D → D → Option PO} (ho : Prim2 p.K r h) (q : tE p W (f2 h f g) σ H Q) : tOp r (tE p W f) (tE p W g) σ H Q := by
  obtain ⟨B, s, ok, q⟩ := q
  refine ⟨B, s, ok, run_mono (run_bind q) fun r1 s1 B1 H1 x1 ok1 k v hv => ⟨B1, s1, ok1, run_mono (run_bind k) fun r2 s2 B2 H2 x2 ok2 k2 w hw => ?_⟩⟩
  revert k2
  cases e1 : view s2 r1 with
  | none => exact fun k => k.elim
  | some d =>
    cases e2 : view s2 r2 with
    | none => exact fun k => k.elim
    | some e =>
      cases eh : h d e with
      | none =>
        intro k
        simp only [eh] at k
        exact k.elim
      | some o =>
        intro k
        simp only [eh] at k
        exact ho B2 H2 v w d e o Q ok2.bh (vw_of (hv.later x2) ok2 e1) (vw_of hw ok2 e2) eh (po_post ok2 (fun b z => x1.dom b (x2.dom b z)) k)
theorem tCB_of {r : List V → Hp → VK → Prop} {h : List D → Option PO} {f : FA} (ho : PrimOk p.K r h) (q : tE p W (fCall h f) σ H Q) : tCB r (tA p W f) σ H Q := by
  obtain ⟨B, s, ok, q⟩ := q
  refine ⟨B, s, ok, run_mono (run_bind q) fun r1 s1 B1 H1 x1 ok1 k vs hv => ?_⟩
  revert k
  cases ev : views s1 r1 with
  | none => exact fun k => k.elim
  | some d =>
    cases eh : h d with
    | none =>
      intro k
      simp only [eh] at k
      exact k.elim
    | some o =>
      intro k
      simp only [eh] at k
      exact ho B1 H1 vs d o Q ok1.bh (vws_of ok1 hv ev) eh (po_post ok1 x1.dom k)
end

/-! ### names, constants -/
def fImm (d : D) : FE := fun s => .ok (.imm d) s
def fName (i : Nat) : FE := fun s => match getS s i with
  | some (some (.imm d)) => .ok (.imm d) s
  | some (some (.own _)) => .ok (.slot i) s
  | some (some (.lent _)) => .ok (.slot i) s
  | _ => .no
section
variable {X : Cx} {p : Pr} {W : WX} {f g : FE} {fa : FA} {a b e : Expr} {es : List Expr} {pos : Pos}
theorem tE_imm {σ : St} {H : Hp} {Q : VK} {d : D} {v : V} (h : tE p W (fImm d) σ H Q) (hv : ∀ B, Dp p.K B v d) : Q v H := by
  obtain ⟨B, s, ok, r⟩ := h
  exact r B H .refl ok v (hv B)
theorem de_int {i j pos} : PE X (.Constant (.int i) j pos) (tE p W (fImm (.int i))) := PE.imp pe_int fun σ H Q h => tE_imm h fun _ => .int i
theorem de_bl {i j pos} : PE X (.Constant (.bool i) j pos) (tE p W (fImm (.bool i))) := PE.imp pe_bl fun σ H Q h => tE_imm h fun _ => .bl i
theorem de_non {j pos} : PE X (.Constant .none j pos) (tE p W (fImm .none)) := PE.imp pe_non fun σ H Q h => tE_imm h fun _ => .non
theorem de_str {i j pos} : PE X (.Constant (.str i) j pos) (tE p W (fImm (.str i))) := PE.imp pe_str fun σ H Q h => tE_imm h fun _ => .str i
/-- a constant of the module -/
theorem de_glob {x : Str} {v : V} {d : D} {u : Value} (hg : Gl X x) (hm : X.mg x = some u) (r : RelV v u) (hv : ∀ B, Dp p.K B v d) (hd : (x == ("__debug__" : Str)) = false := by decide) : PE X (.Name x pos) (tE p W (fImm d)) :=
  PE.imp (pe_glob hg hm r hd) fun σ H Q h => tE_imm h hv
theorem de_name (i : Nat) {x : Str} (hN : X.N[i]? = some x := by rfl) (hv : Vis X.env.scope x := by first | exact Or.inl rfl | exact Or.inr (Or.inl rfl) | exact Or.inr (Or.inr rfl)) (hd : (x == ("__debug__" : Str)) = false := by decide)
    (hcd : (x == ("__classdict__" : Str)) = false := by decide) : PE X (.Name x pos) (tE p W (fName i)) := PE.imp (pe_var hN hv hd hcd) fun σ H Q h => by
  obtain ⟨B, s, ok, r⟩ := h
  have hl : ∀ dv, s[i]? = some dv → ∃ v, σ[i]? = some v := fun dv e => by
    obtain ⟨hi, _⟩ := List.getElem?_eq_some_iff.mp e
    exact ⟨_, List.getElem?_eq_getElem (by rw [ok.len]; exact hi)⟩
  unfold fName at r
  rw [getS_eq] at r
  cases e : s[i]? with
  | none =>
    rw [e] at r
    exact r.elim
  | some dv =>
    obtain ⟨v, hv⟩ := hl dv e
    have q := ok.slot i dv v e hv
    match dv, q with
    | none, q =>
      rw [e] at r
      exact r.elim
    | some (.imm d), ⟨_, x, ex, hx⟩ =>
      rw [e] at r
      subst ex
      exact ⟨x, hv, r B H .refl ok x hx⟩
    | some (.own xs), ⟨_, a, vs, ex, _⟩ =>
      rw [e] at r
      subst ex
      exact ⟨_, hv, r B H .refl ok _ hv⟩
    | some (.lent xs), ⟨a, vs, _, ex, _⟩ =>
      rw [e] at r
      subst ex
      exact ⟨_, hv, r B H .refl ok _ hv⟩
    | some .exc, q =>
      rw [e] at r
      exact r.elim

/-! ### argument lists -/
def faNil : FA := fun s => .ok [] s
def faCons (f : FE) (g : FA) : FA := fun s => (f s).bind fun r s1 => (g s1).bind fun rs s2 => .ok (r :: rs) s2
theorem da_nil : PA X [] (tA p W faNil) := PA.imp pa_nil fun σ H Q h => by
  obtain ⟨B, s, ok, r⟩ := h
  exact r B H .refl ok [] .nil
theorem da_cons (ha : PE X e (tE p W f)) (hr : PA X es (tA p W fa)) (hs : starEach (e :: es) X.env = (false, eval e X.env) :: starEach es X.env := by rfl) : PA X (e :: es) (tA p W (faCons f fa)) := PA.imp (pa_cons ha hr hs) fun σ H Q h => by
  obtain ⟨B, s, ok, q⟩ := h
  refine ⟨B, s, ok, run_mono (run_bind q) fun r1 s1 B1 H1 x1 ok1 k v hv => ⟨B1, s1, ok1, run_mono (run_bind k) fun rs s2 B2 H2 x2 ok2 k2 vs hvs => ?_⟩⟩
  exact k2 B2 H2 .refl ok2 _ (.cons (hv.later x2) (hvs.back x1.dom))

/-! ### operators, calls of built-ins -/
theorem de_bin {op : Operator} {r : R2} {h : D → D → Option PO} (ho : OpR X (binaryOp op) r) (hp : Prim2 p.K r h) (ha : PE X a (tE p W f)) (hb : PE X b (tE p W g)) : PE X (.BinOp a op b pos) (tE p W (f2 h f g)) := PE.imp (pe_op ho ha hb) fun σ H Q q => t2_of hp q
theorem de_un {op : UnaryOp} {r : V → Hp → VK → Prop} {h : D → Option PO} (ho : UnR X (unaryOp op) r) (hp : Prim1 p.K r h) (ha : PE X a (tE p W f)) : PE X (.UnaryOp op a pos) (tE p W (f1 h f)) := PE.imp (pe_un ho ha) fun σ H Q q => t1_of hp q
theorem de_cmp {op : CmpOp} {r : R2} {h : D → D → Option PO} (ho : OpR X (compareOp op) r) (hp : Prim2 p.K r h) (ha : PE X a (tE p W f)) (hb : PE X b (tE p W g)) (hm : behindInMarks op b = false) : PE X (.Compare a [op] [b] pos) (tE p W (f2 h f g)) := PE.imp (pe_cmpR ho ha hb hm) fun σ H Q q => t2_of hp q
theorem de_ix {r : R2} {h : D → D → Option PO} (hr : IxR X r) (hp : Prim2 p.K r h) (ha : PE X a (tE p W f)) (hb : PE X b (tE p W g)) (hs : PlainIx b) : PE X (.Subscript a b pos) (tE p W (f2 h f g)) := PE.imp (pe_ix hr ha hb hs) fun σ H Q q => t2_of hp q
theorem de_callB {x : Str} {id : String} {r : List V → Hp → VK → Prop} {h : List D → Option PO} {p' : Pos} (hc : CallR X (.builtin id) r) (hp : PrimOk p.K r h) (hg : Gl X x) (hm : X.mg x = none) (hv : bootBuiltins x = some (.builtin id)) (ha : PA X (e :: es) (tA p W fa)) (hn : x ≠ "__name__" := by decide) (hdb : (x == ("__debug__" : Str)) = false := by decide)
    (he : starEach (e :: es) X.env = (false, eval e X.env) :: starEach es X.env := by rfl) (hpl : (backTo pos (starEach es X.env)).any (·.1) = false := by rfl) : PE X (.Call (.Name x p') (e :: es) [] pos) (tE p W (fCall h fa)) := PE.imp (pe_callB hc hg hm hv ha hn hdb he hpl) fun σ H Q q => tCB_of hp q
theorem de_callTy {x : Str} {T : String} {r : List V → Hp → VK → Prop} {h : List D → Option PO} {p' : Pos} (hc : CallR X (.type T) r) (hp : PrimOk p.K r h) (hg : Gl X x) (hm : X.mg x = none) (hv : bootBuiltins x = some (.type T)) (ha : PA X (e :: es) (tA p W fa)) (hn : x ≠ "__name__" := by decide) (hdb : (x == ("__debug__" : Str)) = false := by decide)
    (he : starEach (e :: es) X.env = (false, eval e X.env) :: starEach es X.env := by rfl) (hpl : (backTo pos (starEach es X.env)).any (·.1) = false := by rfl) : PE X (.Call (.Name x p') (e :: es) [] pos) (tE p W (fCall h fa)) := PE.imp (pe_callTy hc hg hm hv ha hn hdb he hpl) fun σ H Q q => tCB_of hp q

/-! ### a fresh list is given away -/
def toImm : RV → Option D
  | .imm d => some d
  | .tmp xs => some (.list xs)
  | .slot _ => none
def fI (f : FE) : FE := fun s => (f s).bind fun r s1 => match toImm r with
  | some d => .ok (.imm d) s1
  | none => .no
theorem StOk.froz {p : Pr} {B H : Hp} {σ : St} {s : SD} {c : Addr} {vs : List V} (ok : StOk p B H σ s) (hz : p.Z c = none) (h1 : H c = some (.lst vs)) (h2 : B c = none) (h4 : ∀ i, ¬ Owns σ s i c) : StOk p (upd B c (.lst vs)) H σ s := by
  have sb : Same B (upd B c (.lst vs)) := same_upd h2
  have nb : ∀ b, b ≠ c → B b = none → upd B c (.lst vs) b = none := fun b hb e => by
    rw [upd_ne hb]
    exact e
  refine ⟨ok.len, fun i dv v e1 e2 => ?_, ok.sep, ok.b0.trans sb, fun b o z => ?_, ok.fr, ok.dom, fun b z e => nb b (fun q => z (by rw [q]; exact hz)) (ok.new b z e)⟩
  · have q := ok.slot i dv v e1 e2
    match dv, q with
    | none, q => exact q
    | some (.imm d), ⟨l, x, e, r⟩ => exact ⟨l, x, e, dp_same sb _ _ r⟩
    | some (.own xs), ⟨l, a, us, e, z, h, n, r⟩ => exact ⟨l, a, us, e, z, h, nb a (fun q => h4 i (by rw [← q]; exact ⟨by rw [e2, e], xs, .inl e1⟩)) n, dps_same sb _ _ r⟩
    | some (.lent xs), ⟨a, us, l, e, h, n, r⟩ => exact ⟨a, us, l, e, h, nb a (fun q => h4 i (by rw [← q]; exact ⟨by rw [e2, e], xs, .inr e1⟩)) n, dps_same sb _ _ r⟩
    | some .exc, q => exact q
  · by_cases q : b = c
    · subst q
      rw [upd_same] at z
      cases z
      exact h1
    · rw [upd_ne q] at z
      exact ok.bh b o z
theorem de_imm (ha : PE X e (tE p W f)) : PE X e (tE p W (fI f)) := PE.imp ha fun σ H Q h => by
  obtain ⟨B, s, ok, q⟩ := h
  refine ⟨B, s, ok, ?_⟩
  unfold fI at q
  cases ef : f s with
  | no =>
    rw [ef] at q
    exact q
  | ex e' s' =>
    rw [ef] at q
    exact q
  | ok r1 s1 =>
    rw [ef] at q
    intro B1 H1 x1 ok1 v hv
    cases r1 with
    | imm d => exact q B1 H1 x1 ok1 v hv
    | slot i => exact q.elim
    | tmp xs =>
      obtain ⟨c, vs, rfl, h0, h1, h2, h3, h4⟩ := hv
      refine q (upd B1 c (.lst vs)) H1 ⟨x1.bb.trans (same_upd h2), x1.hh, x1.dom, fun b z e => ?_, x1.own⟩ (ok1.froz (ok.dom c h0) h1 h2 h4) _ (Dp.lst (.inl (Rd.of upd_same)) (dps_same (same_upd h2) _ _ h3))
      rw [upd_ne (fun w => z (by rw [w]; exact h0))]
      exact x1.new b z e
end
end DL
end

set_option Elab.async false
set_option linter.all false
set_option maxRecDepth 100000
set_option maxHeartbeats 4000000
noncomputable section
namespace DL
open PySem PySem.Spec PyProof.Rows L2

/-! ### operators: what they do to data -/
def mx : Nat := 16000000
theorem mx_le {n : Nat} (h : n ≤ mx) : n ≤ sizeLine := Nat.le_trans h (by decide)
theorem mx_lt {n : Nat} (h : n ≤ mx) : n < sizeLine := Nat.lt_of_le_of_lt h (by decide)
theorem opR_or {X : Cx} {f : Value → Value → Sem Value} {r r' : R2} (a : OpR X f r) (b : OpR X f r') : OpR X f (fun x y H Q => r x y H Q ∨ r' x y H Q) := fun pins s σ H x y v u Q I rx ry h => by
  rcases h with h | h
  · exact a pins s σ H x y v u Q I rx ry h
  · exact b pins s σ H x y v u Q I rx ry h
theorem callR_or {X : Cx} {f : Value} {r r' : List V → Hp → VK → Prop} (a : CallR X f r) (b : CallR X f r') : CallR X f (fun xs H Q => r xs H Q ∨ r' xs H Q) := fun pins s σ H xs us Q I rx h => by
  rcases h with h | h
  · exact a pins s σ H xs us Q I rx h
  · exact b pins s σ H xs us Q I rx h
theorem Vw.dpT {K : PySem.W.Frag} {B H : Hp} {v : V} {xs : List D} (h : Vw K B H v (.tuple xs)) : Dp K B v (.tuple xs) := by
  rcases h with h | ⟨a, vs, ys, rfl, e, h1, h2⟩
  · exact h
  · cases e
def rCatR (K : PySem.W.Frag) : R2 := fun x y H Q => ∃ l b xs zs, x = .ref l ∧ y = .ref b ∧ SqL K H l xs ∧ SqL K H b zs ∧ xs.length + zs.length ≤ sizeLine ∧ ∀ p, H p = none → Q (.ref p) (upd H p (.lst (xs ++ zs)))
theorem op_catR {X : Cx} : OpR X (binaryOp .Add) (rCatR X.K) := by
  intro pins s σ H x y v u Q I rx ry h
  obtain ⟨l, b, xs, zs, rfl, rfl, hH, hB, hz, q⟩ := h
  cases rx
  cases ry
  obtain ⟨its, r, ⟨⟨c1, d1, t1, s1⟩, n, e, hc, -, hd⟩, z⟩ := I.list hH
  obtain ⟨its2, r2, ⟨⟨c2, d2, t2, s2⟩, n2, e2, hc2, -, hd2⟩, z2⟩ := I.list hB
  simp only at hc hd hc2 hd2
  subst hc hd hc2 hd2
  have hl := r.length
  have hl2 := r2.length
  have ea : its.toArray ++ its2.toArray = (its ++ its2).toArray := by simp
  refine concat_meets ⟨_, e, rfl⟩ ⟨_, e2, rfl⟩ noFill_list_add seq_list_add PySem.F.slot_list_add PySem.F.entry_list_add (PySem.F.args_list_add_2 _ _)
    (list_addW l b its.toArray its2.toArray n n2 d1 d2 s1 s2 (by rw [List.size_toArray, List.size_toArray]; omega)) ⟨e, e2, ?_⟩
  rw [ea]
  exact ⟨.ref _, _, I.lnew (t' := s.toks) (r.append r2) (by rw [List.length_append]; omega), rfl, q _ I.fresh⟩
def hAdd : D → D → Option PO
  | .int i, .int j => some (.val (.int (i + j)))
  | .str i, .str j => if i.length + j.length ≤ mx then some (.val (.str (i ++ j))) else none
  | .list xs, .list ys => if xs.length + ys.length ≤ mx then some (.lst (xs ++ ys)) else none
  | .tuple xs, .tuple ys => if xs.length + ys.length ≤ mx then (match xs, ys with
    | [], ys => some (.val (.tuple ys))
    | x :: xs, [] => some (.val (.tuple (x :: xs)))
    | x :: xs, y :: ys => some (.tup (x :: xs ++ y :: ys))) else none
  | _, _ => none
def rAddD (K : PySem.W.Frag) : R2 := fun x y H Q => (rI0 (fun i j => V.int (i + j))) x y H Q ∨ ((∃ i j, x = .str i ∧ y = .str j ∧ i.length + j.length ≤ sizeLine ∧ Q (.str (i ++ j)) H) ∨ (rCatR K x y H Q ∨ rCatA K x y H Q))
theorem op_addD {X : Cx} : OpR X (binaryOp .Add) (rAddD X.K) := opR_or op_add (opR_or op_add_str (opR_or op_catR op_catA))
theorem pr_add {K : PySem.W.Frag} : Prim2 K (rAddD K) hAdd := by
  intro B H v w d e o Q bh hv hw he hq
  unfold hAdd at he
  split at he
  · cases he
    exact .inl ⟨_, _, hv.int, hw.int, hq _ (.int _)⟩
  · rename_i i j
    split at he
    · rename_i hz
      cases he
      exact .inr (.inl ⟨_, _, hv.str, hw.str, mx_le hz, hq _ (.str _)⟩)
    · cases he
  · rename_i xs ys
    split at he
    · rename_i hz
      cases he
      obtain ⟨a, vs, rfl, h1, h2⟩ := hv.list bh
      obtain ⟨b, ws, rfl, h3, h4⟩ := hw.list bh
      exact .inr (.inr (.inl ⟨a, b, vs, ws, rfl, rfl, h1, h3, by rw [dps_len h2, dps_len h4]; exact mx_le hz, fun q n => hq q _ n (dps_app h2 h4)⟩))
    · cases he
  · rename_i xs ys
    split at he
    · rename_i hz
      have dv := hv.dpT
      have dw := hw.dpT
      obtain ⟨a, vs, rfl, h1, h2⟩ := hv.tup bh
      obtain ⟨b, ws, rfl, h3, h4⟩ := hw.tup bh
      refine .inr (.inr (.inr ⟨a, b, vs, ws, rfl, rfl, h1, h3, by rw [dps_len h2, dps_len h4]; exact mx_le hz, fun z => ?_, fun z1 z2 => ?_, fun z1 z2 q n => ?_⟩))
      · subst z
        cases h2
        cases he
        exact hq _ dw
      · subst z2
        cases h4
        cases h2 with
        | nil => exact absurd rfl z1
        | cons _ _ =>
          cases he
          exact hq _ dv
      · cases h2 with
        | nil => exact absurd rfl z1
        | cons x1 t1 =>
          cases h4 with
          | nil => exact absurd rfl z2
          | cons x2 t2 =>
            cases he
            exact hq q _ n (dps_app (.cons x1 t1) (.cons x2 t2))
    · cases he
  · cases he

def hSub : D → D → Option PO
  | .int i, .int j => some (.val (.int (i - j)))
  | _, _ => none
theorem pr_sub {K : PySem.W.Frag} : Prim2 K (rI0 fun i j => V.int (i - j)) hSub := by
  intro B H v w d e o Q bh hv hw he hq
  unfold hSub at he
  split at he
  · cases he
    exact ⟨_, _, hv.int, hw.int, hq _ (.int _)⟩
  · cases he
def rRepR : R2 := fun x y H Q => ∃ l k xs, x = .ref l ∧ y = .int k ∧ H l = some (.lst xs) ∧ -(2 ^ 63) ≤ k ∧ k < 2 ^ 63 ∧ xs.length * k.toNat ≤ sizeLine ∧
  ∀ p, H p = none → Q (.ref p) (upd H p (.lst (List.replicate k.toNat xs).flatten))
def small64 (i : Int) : Bool := decide (-18446744073709551616 < i) && decide (i < 18446744073709551616)
theorem p64 : (2 : Int) ^ 64 = 18446744073709551616 := by decide
def hMul : D → D → Option PO
  | .int i, .int j => if small64 i || small64 j then some (.val (.int (i * j))) else none
  | _, _ => none
theorem pr_mul {K : PySem.W.Frag} : Prim2 K (rI CMul fun i j => V.int (i * j)) hMul := by
  intro B H v w d e o Q bh hv hw he hq
  unfold hMul at he
  split at he
  · split at he
    · rename_i hz
      cases he
      refine ⟨_, _, hv.int, hw.int, ?_, hq _ (.int _)⟩
      show (-(2 ^ 64) < _ ∧ _ < 2 ^ 64) ∨ _
      rw [p64]
      unfold small64 at hz
      simp only [Bool.or_eq_true, Bool.and_eq_true, decide_eq_true_eq] at hz
      exact hz
    · cases he
  · cases he
def hDiv : D → D → Option PO
  | .int i, .int j => if j ≠ 0 ∧ j.natAbs < 1073741824 then some (.val (.int (i.fdiv j))) else none
  | _, _ => none
theorem pr_div {K : PySem.W.Frag} : Prim2 K (rI CDivN fun i j => V.int (i.fdiv j)) hDiv := by
  intro B H v w d e o Q bh hv hw he hq
  unfold hDiv at he
  split at he
  · split at he
    · rename_i hz
      cases he
      exact ⟨_, _, hv.int, hw.int, hz, hq _ (.int _)⟩
    · cases he
  · cases he
def hMod : D → D → Option PO
  | .int i, .int j => if j ≠ 0 then some (.val (.int (i.fmod j))) else none
  | _, _ => none
theorem pr_mod {K : PySem.W.Frag} : Prim2 K (rI (fun _ j => j ≠ 0) fun i j => V.int (i.fmod j)) hMod := by
  intro B H v w d e o Q bh hv hw he hq
  unfold hMod at he
  split at he
  · split at he
    · rename_i hz
      cases he
      exact ⟨_, _, hv.int, hw.int, hz, hq _ (.int _)⟩
    · cases he
  · cases he
def hPow : D → D → Option PO
  | .int i, .int j => if 0 ≤ j ∧ j ≤ 1000 ∧ i.natAbs < 2 ^ 64 then some (.val (.int (i ^ j.toNat))) else none
  | _, _ => none
theorem pr_pow {K : PySem.W.Frag} : Prim2 K (rI CPow fun i j => V.int (i ^ j.toNat)) hPow := by
  intro B H v w d e o Q bh hv hw he hq
  unfold hPow at he
  split at he
  · split at he
    · rename_i hz
      cases he
      exact ⟨_, _, hv.int, hw.int, ⟨hz.1, by omega, hz.2.2⟩, hq _ (.int _)⟩
    · cases he
  · cases he
def hNeg : D → Option PO
  | .int i => some (.val (.int (-i)))
  | _ => none
theorem pr_neg {K : PySem.W.Frag} : Prim1 K (rU fun i => V.int (-i)) hNeg := by
  intro B H v d o Q bh hv he hq
  unfold hNeg at he
  split at he
  · cases he
    exact ⟨_, hv.int, hq _ (.int _)⟩
  · cases he

/-! ### comparisons -/
def hCmp (c : Int → Int → Bool) : D → D → Option PO
  | .int i, .int j => some (.val (.bool (c i j)))
  | _, _ => none
theorem pr_cmp {K : PySem.W.Frag} {c : Int → Int → Bool} : Prim2 K (rI0 fun i j => V.bl (c i j)) (hCmp c) := by
  intro B H v w d e o Q bh hv hw he hq
  unfold hCmp at he
  split at he
  · cases he
    exact ⟨_, _, hv.int, hw.int, hq _ (.bl _)⟩
  · cases he
def hLt := hCmp fun i j => decide (i < j)
def hLe := hCmp fun i j => decide (i ≤ j)
def hGt := hCmp fun i j => decide (j < i)
def hGe := hCmp fun i j => decide (j ≤ i)
/-- equal: numbers at once, other data by the general way -/
def eqF : D → D → Option Bool
  | .int i, .int j => some (decide (i = j))
  | .bool i, .bool j => some (i == j)
  | d, e => if SeqAt.shaped d && SeqAt.shaped e then some (PyData.eqv d e) else none
theorem eqF_ok {d e : D} {b : Bool} (h : eqF d e = some b) : SeqAt.shaped d = true ∧ SeqAt.shaped e = true ∧ PyData.eqv d e = b := by
  unfold eqF at h
  split at h
  · cases h
    exact ⟨rfl, rfl, by simp only [PyData.eqv]; rfl⟩
  · cases h
    exact ⟨rfl, rfl, by simp only [PyData.eqv]⟩
  · split at h
    · rename_i hz
      cases h
      rw [Bool.and_eq_true] at hz
      exact ⟨hz.1, hz.2, rfl⟩
    · cases h
def hEq (d e : D) : Option PO := (eqF d e).map fun b => .val (.bool b)
def hNe (d e : D) : Option PO := (eqF d e).map fun b => .val (.bool !b)
theorem pr_eq {K : PySem.W.Frag} : Prim2 K (rEqD K) hEq := by
  intro B H v w d e o Q bh hv hw he hq
  unfold hEq at he
  cases eb : eqF d e with
  | none =>
    rw [eb] at he
    cases he
  | some b =>
    rw [eb] at he
    cases he
    obtain ⟨h1, h2, h3⟩ := eqF_ok eb
    exact ⟨d, e, dp_l2 _ _ (hv.dp bh), dp_l2 _ _ (hw.dp bh), h1, h2, by rw [h3]; exact hq _ (.bl _)⟩
theorem pr_ne {K : PySem.W.Frag} : Prim2 K (rNeD K) hNe := by
  intro B H v w d e o Q bh hv hw he hq
  unfold hNe at he
  cases eb : eqF d e with
  | none =>
    rw [eb] at he
    cases he
  | some b =>
    rw [eb] at he
    cases he
    obtain ⟨h1, h2, h3⟩ := eqF_ok eb
    exact ⟨d, e, dp_l2 _ _ (hv.dp bh), dp_l2 _ _ (hw.dp bh), h1, h2, by rw [h3]; exact hq _ (.bl _)⟩
def isNon : D → Bool
  | .none => true
  | _ => false
theorem vw_non {K : PySem.W.Frag} {B H : Hp} {v : V} {d : D} (h : Vw K B H v d) : decide (v = V.non) = isNon d := by
  rcases h with h | ⟨a, vs, xs, rfl, rfl, _⟩
  · cases h <;> rfl
  · rfl
/-- is None, is not None -/
def hIsN (d e : D) : Option PO := match e with
  | .none => some (.val (.bool (isNon d)))
  | _ => none
def hNotN (d e : D) : Option PO := match e with
  | .none => some (.val (.bool (!isNon d)))
  | _ => none
theorem pr_isN {K : PySem.W.Frag} : Prim2 K (fun x y H Q => y = .non ∧ Q (.bl (decide (x = .non))) H) hIsN := by
  intro B H v w d e o Q bh hv hw he hq
  unfold hIsN at he
  split at he
  · cases he
    refine ⟨hw.non, ?_⟩
    rw [vw_non hv]
    exact hq _ (.bl _)
  · cases he
theorem pr_notN {K : PySem.W.Frag} : Prim2 K (fun x y H Q => y = .non ∧ Q (.bl (!decide (x = .non))) H) hNotN := by
  intro B H v w d e o Q bh hv hw he hq
  unfold hNotN at he
  split at he
  · cases he
    refine ⟨hw.non, ?_⟩
    rw [vw_non hv]
    exact hq _ (.bl _)
  · cases he
/-- an int in a list of ints, a text in a list of texts -/
def intIn (i : Int) : List D → Option Bool
  | [] => some false
  | .int j :: r => if i = j then (match intIn i r with | some _ => some true | none => none) else intIn i r
  | _ :: _ => none

/-! ### items -/
/-- an item by the recursors alone -/
def getL (xs : List D) : Nat → Option D := List.rec (motive := fun _ => Nat → Option D) (fun _ => none) (fun x _ ih n => Nat.rec (motive := fun _ => Option D) (some x) (fun m _ => ih m) n) xs
theorem getL_eq : ∀ (xs : List D) (i : Nat), getL xs i = xs[i]?
  | [], _ => rfl
  | _ :: _, 0 => rfl
  | _ :: r, i + 1 => getL_eq r i
def atF (xs : List D) : Int → Option D
  | .ofNat n => getL xs n
  | .negSucc n => atI xs (.negSucc n)
theorem atF_eq (xs : List D) (i : Int) : atF xs i = atI xs i := by
  cases i with
  | negSucc n => rfl
  | ofNat n =>
    show getL xs n = atI xs (n : Int)
    rw [getL_eq]
    cases e : xs[n]? with
    | some d => exact (atI_nat e).symm
    | none =>
      unfold atI
      cases q : ixN xs.length (n : Int) with
      | none => rfl
      | some j =>
        have hn : xs.length ≤ n := List.getElem?_eq_none_iff.mp e
        exfalso
        unfold ixN at q
        rw [if_pos (by omega), if_neg (by omega)] at q
        cases q
def hIx : D → D → Option PO
  | .list xs, .int i => (atF xs i).map PO.val
  | .tuple xs, .int i => (atF xs i).map PO.val
  | _, _ => none
theorem atI_dps {K : PySem.W.Frag} {B : Hp} {vs : List V} {ds : List D} {i : Int} {d : D} (h : DpAll K B vs ds) (e : atI ds i = some d) : ∃ v, atI vs i = some v ∧ Dp K B v d := by
  unfold atI at e ⊢
  rw [← dps_len h] at e
  cases q : ixN vs.length i with
  | none =>
    rw [q] at e
    cases e
  | some j =>
    rw [q] at e
    exact dps_get h e
theorem pr_ix {K : PySem.W.Frag} : Prim2 K (rIx K) hIx := by
  intro B H v w d e o Q bh hv hw he hq
  unfold hIx at he
  simp only [atF_eq] at he
  split at he
  · rename_i xs i
    cases ea : atI xs i with
    | none =>
      rw [ea] at he
      cases he
    | some x =>
      rw [ea] at he
      cases he
      obtain ⟨a, vs, rfl, h1, h2⟩ := hv.list bh
      obtain ⟨y, hy, hd⟩ := atI_dps h2 ea
      exact .inl ⟨a, vs, i, y, rfl, hw.int, h1, hy, hq _ hd⟩
  · rename_i xs i
    cases ea : atI xs i with
    | none =>
      rw [ea] at he
      cases he
    | some x =>
      rw [ea] at he
      cases he
      obtain ⟨a, vs, rfl, h1, h2⟩ := hv.tup bh
      obtain ⟨y, hy, hd⟩ := atI_dps h2 ea
      exact .inr (.inl ⟨a, vs, i, y, rfl, hw.int, h1, hy, hq _ hd⟩)
  · cases he

/-! ### built-in functions -/
def hLen : List D → Option PO
  | [.list xs] => some (.val (.int xs.length))
  | [.tuple xs] => some (.val (.int xs.length))
  | _ => none
theorem vs1 {K : PySem.W.Frag} {B H : Hp} {vs : List V} {d : D} (h : VsAll K B H vs [d]) : ∃ v, vs = [v] ∧ Vw K B H v d := by
  cases h with
  | cons h t =>
    cases t
    exact ⟨_, rfl, h⟩
theorem vs2 {K : PySem.W.Frag} {B H : Hp} {vs : List V} {d e : D} (h : VsAll K B H vs [d, e]) : ∃ v w, vs = [v, w] ∧ Vw K B H v d ∧ Vw K B H w e := by
  cases h with
  | cons h t =>
    cases t with
    | cons h' t' =>
      cases t'
      exact ⟨_, _, rfl, h, h'⟩
theorem pr_len {K : PySem.W.Frag} : PrimOk K (fun xs H Q => ∃ p ys, xs = [V.ref p] ∧ (SqL K H p ys ∨ SqT K H p ys) ∧ Q (.int ys.length) H) hLen := by
  intro B H vs ds o Q bh hv he hq
  unfold hLen at he
  split at he
  · cases he
    obtain ⟨v, rfl, h⟩ := vs1 hv
    obtain ⟨a, ws, rfl, h1, h2⟩ := h.list bh
    refine ⟨a, ws, rfl, .inl h1, ?_⟩
    rw [dps_len h2]
    exact hq _ (.int _)
  · cases he
    obtain ⟨v, rfl, h⟩ := vs1 hv
    obtain ⟨a, ws, rfl, h1, h2⟩ := h.tup bh
    refine ⟨a, ws, rfl, .inr h1, ?_⟩
    rw [dps_len h2]
    exact hq _ (.int _)
  · cases he
def hAbs : List D → Option PO
  | [.int i] => some (.val (.int (if i < 0 then -i else i)))
  | _ => none
theorem pr_abs {K : PySem.W.Frag} : PrimOk K (fun xs H Q => ∃ i, xs = [V.int i] ∧ Q (.int (if i < 0 then -i else i)) H) hAbs := by
  intro B H vs ds o Q bh hv he hq
  unfold hAbs at he
  split at he
  · cases he
    obtain ⟨v, rfl, h⟩ := vs1 hv
    exact ⟨_, by rw [h.int], hq _ (.int _)⟩
  · cases he
def hInt : List D → Option PO
  | [.int i] => some (.val (.int i))
  | _ => none
theorem pr_int {K : PySem.W.Frag} : PrimOk K (fun xs H Q => (∃ i, xs = [V.int i] ∧ Q (.int i) H) ∨ ∃ k, xs = [V.bl k] ∧ Q (.int (if k then 1 else 0)) H) hInt := by
  intro B H vs ds o Q bh hv he hq
  unfold hInt at he
  split at he
  · cases he
    obtain ⟨v, rfl, h⟩ := vs1 hv
    exact .inl ⟨_, by rw [h.int], hq _ (.int _)⟩
  · cases he
/-- ints of a list -/
def asInts : List D → Option (List Int)
  | [] => some []
  | .int i :: r => (asInts r).map (i :: ·)
  | _ :: _ => none
theorem asInts_vs {K : PySem.W.Frag} {B : Hp} : ∀ {vs : List V} {ds : List D} {ns : List Int}, DpAll K B vs ds → asInts ds = some ns → vs = ns.map V.int
  | _, [], ns, h, e => by
    cases h
    cases e
    rfl
  | _, d :: ds, ns, h, e => by
    cases h with
    | cons h t =>
      unfold asInts at e
      split at e
      · rename_i q
        cases q
      · rename_i i r q
        cases q
        cases er : asInts ds with
        | none =>
          rw [er] at e
          cases e
        | some ms =>
          rw [er] at e
          cases e
          cases h
          rw [asInts_vs t er]
          rfl
      · cases e
def maxI : Int → List Int → Int
  | m, [] => m
  | m, x :: r => maxI (if m < x then x else m) r
def minI : Int → List Int → Int
  | m, [] => m
  | m, x :: r => minI (if x < m then x else m) r
theorem maxI_spec : ∀ (r : List Int) (m : Int), (maxI m r = m ∨ maxI m r ∈ r) ∧ m ≤ maxI m r ∧ ∀ y ∈ r, y ≤ maxI m r
  | [], m => ⟨.inl rfl, Int.le_refl _, fun _ h => nomatch h⟩
  | x :: r, m => by
    obtain ⟨h1, h2, h3⟩ := maxI_spec r (if m < x then x else m)
    refine ⟨?_, ?_, fun y hy => ?_⟩
    · show maxI (if m < x then x else m) r = m ∨ maxI (if m < x then x else m) r ∈ x :: r
      rcases h1 with h1 | h1
      · rw [h1]
        split
        · exact .inr List.mem_cons_self
        · exact .inl rfl
      · exact .inr (List.mem_cons_of_mem _ h1)
    · show m ≤ maxI (if m < x then x else m) r
      split at h2 <;> split <;> omega
    · show y ≤ maxI (if m < x then x else m) r
      rcases List.mem_cons.mp hy with e | hy
      · subst e
        split at h2 <;> split <;> omega
      · exact h3 y hy
theorem minI_spec : ∀ (r : List Int) (m : Int), (minI m r = m ∨ minI m r ∈ r) ∧ minI m r ≤ m ∧ ∀ y ∈ r, minI m r ≤ y
  | [], m => ⟨.inl rfl, Int.le_refl _, fun _ h => nomatch h⟩
  | x :: r, m => by
    obtain ⟨h1, h2, h3⟩ := minI_spec r (if x < m then x else m)
    refine ⟨?_, ?_, fun y hy => ?_⟩
    · show minI (if x < m then x else m) r = m ∨ minI (if x < m then x else m) r ∈ x :: r
      rcases h1 with h1 | h1
      · rw [h1]
        split
        · exact .inr List.mem_cons_self
        · exact .inl rfl
      · exact .inr (List.mem_cons_of_mem _ h1)
    · show minI (if x < m then x else m) r ≤ m
      split at h2 <;> split <;> omega
    · show minI (if x < m then x else m) r ≤ y
      rcases List.mem_cons.mp hy with e | hy
      · subst e
        split at h2 <;> split <;> omega
      · exact h3 y hy
def hMax : List D → Option PO
  | [.list xs] => match asInts xs with
    | some (x :: r) => some (.val (.int (maxI x r)))
    | _ => none
  | [.int i, .int j] => some (.val (.int (if j > i then j else i)))
  | _ => none
def hMin : List D → Option PO
  | [.list xs] => match asInts xs with
    | some (x :: r) => some (.val (.int (minI x r)))
    | _ => none
  | [.int i, .int j] => some (.val (.int (if j < i then j else i)))
  | _ => none
theorem pr_max {K : PySem.W.Frag} : PrimOk K (fun xs H Q => rMax K xs H Q ∨ ∃ i j, xs = [V.int i, V.int j] ∧ Q (.int (if j > i then j else i)) H) hMax := by
  intro B H vs ds o Q bh hv he hq
  unfold hMax at he
  split at he
  · rename_i xs
    split at he
    · rename_i x r e
      cases he
      obtain ⟨v, rfl, h⟩ := vs1 hv
      obtain ⟨a, ws, rfl, h1, h2⟩ := h.list bh
      have ew := asInts_vs h2 e
      subst ew
      obtain ⟨s1, s2, s3⟩ := maxI_spec r x
      refine .inl ⟨a, x :: r, rfl, h1, by simp, fun m hm hle => ?_⟩
      have em : m = maxI x r := by
        refine Int.le_antisymm ?_ (hle _ ?_)
        · rcases List.mem_cons.mp hm with e | hm
          · rw [e]; exact s2
          · exact s3 m hm
        · rcases s1 with s1 | s1
          · rw [s1]; exact List.mem_cons_self
          · exact List.mem_cons_of_mem _ s1
      rw [em]
      exact hq _ (.int _)
    · cases he
  · cases he
    obtain ⟨v, w, rfl, h, h'⟩ := vs2 hv
    exact .inr ⟨_, _, by rw [h.int, h'.int], hq _ (.int _)⟩
  · cases he
theorem pr_min {K : PySem.W.Frag} : PrimOk K (fun xs H Q => rMin K xs H Q ∨ ∃ i j, xs = [V.int i, V.int j] ∧ Q (.int (if j < i then j else i)) H) hMin := by
  intro B H vs ds o Q bh hv he hq
  unfold hMin at he
  split at he
  · rename_i xs
    split at he
    · rename_i x r e
      cases he
      obtain ⟨v, rfl, h⟩ := vs1 hv
      obtain ⟨a, ws, rfl, h1, h2⟩ := h.list bh
      have ew := asInts_vs h2 e
      subst ew
      obtain ⟨s1, s2, s3⟩ := minI_spec r x
      refine .inl ⟨a, x :: r, rfl, h1, by simp, fun m hm hle => ?_⟩
      have em : m = minI x r := by
        refine Int.le_antisymm (hle _ ?_) ?_
        · rcases s1 with s1 | s1
          · rw [s1]; exact List.mem_cons_self
          · exact List.mem_cons_of_mem _ s1
        · rcases List.mem_cons.mp hm with e | hm
          · rw [e]; exact s2
          · exact s3 m hm
      rw [em]
      exact hq _ (.int _)
    · cases he
  · cases he
    obtain ⟨v, w, rfl, h, h'⟩ := vs2 hv
    exact .inr ⟨_, _, by rw [h.int, h'.int], hq _ (.int _)⟩
  · cases he
/-- bools of a list -/
def asBools : List D → Option (List Bool)
  | [] => some []
  | .bool i :: r => (asBools r).map (i :: ·)
  | _ :: _ => none
theorem asBools_vs {K : PySem.W.Frag} {B : Hp} : ∀ {vs : List V} {ds : List D} {ns : List Bool}, DpAll K B vs ds → asBools ds = some ns → vs = ns.map V.bl
  | _, [], ns, h, e => by
    cases h
    cases e
    rfl
  | _, d :: ds, ns, h, e => by
    cases h with
    | cons h t =>
      unfold asBools at e
      split at e
      · rename_i q
        cases q
      · rename_i i r q
        cases q
        cases er : asBools ds with
        | none =>
          rw [er] at e
          cases e
        | some ms =>
          rw [er] at e
          cases e
          cases h
          rw [asBools_vs t er]
          rfl
      · cases e
def hAll : List D → Option PO
  | [.list xs] => (asBools xs).map fun bs => .val (.bool (bs.all id))
  | _ => none
def hAny : List D → Option PO
  | [.list xs] => (asBools xs).map fun bs => .val (.bool (bs.any id))
  | _ => none
theorem pr_all {K : PySem.W.Frag} : PrimOk K (rAll K) hAll := by
  intro B H vs ds o Q bh hv he hq
  unfold hAll at he
  split at he
  · rename_i xs
    cases e : asBools xs with
    | none =>
      rw [e] at he
      cases he
    | some bs =>
      rw [e] at he
      cases he
      obtain ⟨v, rfl, h⟩ := vs1 hv
      obtain ⟨a, ws, rfl, h1, h2⟩ := h.list bh
      have ew := asBools_vs h2 e
      subst ew
      exact ⟨a, bs, rfl, h1, hq _ (.bl _)⟩
  · cases he
theorem pr_any {K : PySem.W.Frag} : PrimOk K (rAny K) hAny := by
  intro B H vs ds o Q bh hv he hq
  unfold hAny at he
  split at he
  · rename_i xs
    cases e : asBools xs with
    | none =>
      rw [e] at he
      cases he
    | some bs =>
      rw [e] at he
      cases he
      obtain ⟨v, rfl, h⟩ := vs1 hv
      obtain ⟨a, ws, rfl, h1, h2⟩ := h.list bh
      have ew := asBools_vs h2 e
      subst ew
      exact ⟨a, bs, rfl, h1, hq _ (.bl _)⟩
  · cases he
def hSum : List D → Option PO
  | [.list xs] => (asInts xs).map fun bs => .val (.int bs.sum)
  | _ => none
theorem pr_sum {K : PySem.W.Frag} : PrimOk K (rSum K) hSum := by
  intro B H vs ds o Q bh hv he hq
  unfold hSum at he
  split at he
  · rename_i xs
    cases e : asInts xs with
    | none =>
      rw [e] at he
      cases he
    | some bs =>
      rw [e] at he
      cases he
      obtain ⟨v, rfl, h⟩ := vs1 hv
      obtain ⟨a, ws, rfl, h1, h2⟩ := h.list bh
      have ew := asInts_vs h2 e
      subst ew
      exact ⟨a, bs, rfl, h1, hq _ (.int _)⟩
  · cases he
def hList : List D → Option PO
  | [.list xs] => some (.lst xs)
  | [.tuple xs] => some (.lst xs)
  | _ => none
theorem pr_list {K : PySem.W.Frag} : PrimOk K (fun xs H Q => ∃ p ys, xs = [V.ref p] ∧ (SqL K H p ys ∨ SqT K H p ys) ∧ ∀ l, H l = none → Q (.ref l) (upd H l (.lst ys))) hList := by
  intro B H vs ds o Q bh hv he hq
  unfold hList at he
  split at he
  · cases he
    obtain ⟨v, rfl, h⟩ := vs1 hv
    obtain ⟨a, ws, rfl, h1, h2⟩ := h.list bh
    exact ⟨a, ws, rfl, .inl h1, fun l n => hq l ws n h2⟩
  · cases he
    obtain ⟨v, rfl, h⟩ := vs1 hv
    obtain ⟨a, ws, rfl, h1, h2⟩ := h.tup bh
    exact ⟨a, ws, rfl, .inr h1, fun l n => hq l ws n h2⟩
  · cases he
def hTuple : List D → Option PO
  | [.list xs] => some (.tup xs)
  | [.tuple xs] => some (.val (.tuple xs))
  | _ => none
theorem pr_tuple {K : PySem.W.Frag} : PrimOk K (fun xs H Q => ∃ p ys, xs = [V.ref p] ∧ ((SqL K H p ys ∧ ∀ l, H l = none → Q (.ref l) (upd H l (.tup ys))) ∨ (SqT K H p ys ∧ Q (.ref p) H))) hTuple := by
  intro B H vs ds o Q bh hv he hq
  unfold hTuple at he
  split at he
  · cases he
    obtain ⟨v, rfl, h⟩ := vs1 hv
    obtain ⟨a, ws, rfl, h1, h2⟩ := h.list bh
    exact ⟨a, ws, rfl, .inl ⟨h1, fun l n => hq l ws n h2⟩⟩
  · cases he
    obtain ⟨v, rfl, h⟩ := vs1 hv
    have dv := h.dpT
    obtain ⟨a, ws, rfl, h1, h2⟩ := h.tup bh
    exact ⟨a, ws, rfl, .inr ⟨h1, hq _ dv⟩⟩
  · cases he
end DL
end

set_option Elab.async false
set_option linter.all false
set_option maxRecDepth 100000
set_option maxHeartbeats 4000000
noncomputable section
namespace DL
open PySem PySem.Spec PyProof.Rows L2

/-! ### displays -/
def allImm : List RV → Option (List D)
  | [] => some []
  | .imm d :: r => (allImm r).map (d :: ·)
  | _ :: _ => none
theorem allImm_ok {p : Pr} {H0 : Hp} {σ : St} {s : SD} {B H : Hp} : ∀ {vs : List V} {rs : List RV} {ds : List D}, RvsOk p H0 σ s B H vs rs → allImm rs = some ds → DpAll p.K B vs ds
  | _, _, _, .nil, e => by
    cases e
    exact .nil
  | _, _, ds, .cons (r := r) (rs := rs) h t, e => by
    cases r with
    | imm d =>
      unfold allImm at e
      cases er : allImm rs with
      | none =>
        rw [er] at e
        cases e
      | some es =>
        rw [er] at e
        cases e
        exact .cons h (allImm_ok t er)
    | tmp xs => cases e
    | slot i => cases e
def fTup (f : FA) : FE := fun s => (f s).bind fun rs s1 => match allImm rs with
  | some ds => if ds.length ≤ mx then .ok (.imm (.tuple ds)) s1 else .no
  | none => .no
def fLst (f : FA) : FE := fun s => (f s).bind fun rs s1 => match allImm rs with
  | some ds => if ds.length ≤ mx then .ok (.tmp ds) s1 else .no
  | none => .no
section
variable {X : Cx} {p : Pr} {W : WX} {f g : FE} {fa : FA} {a b c e : Expr} {es : List Expr} {pos : Pos}
theorem de_tup {k} (h : PA X es (tA p W fa)) : PE X (.Tuple es k pos) (tE p W (fTup fa)) := PE.imp (pe_tup h) fun σ H Q h => by
  obtain ⟨B, s, ok, q⟩ := h
  refine ⟨B, s, ok, run_mono (run_bind q) fun rs s1 B1 H1 x1 ok1 k vs hv => ?_⟩
  revert k
  cases ea : allImm rs with
  | none => exact fun k => k.elim
  | some ds =>
    intro k
    simp only at k
    split at k
    · rename_i hz
      have hd := allImm_ok hv ea
      refine ⟨by rw [dps_len hd]; exact mx_le hz, fun q n => ?_⟩
      exact k (upd B1 q (.tup vs)) (upd H1 q (.tup vs)) (.newB ok1.bh n) (ok1.newB n) _ (Dp.tup (SqT.of upd_same) (dps_same (same_upd (ok1.bh.free n)) _ _ hd))
    · exact k.elim
theorem de_lst (h : PA X es (tA p W fa)) : PE X (.List es pos) (tE p W (fLst fa)) := PE.imp (pe_lst h) fun σ H Q h => by
  obtain ⟨B, s, ok, q⟩ := h
  refine ⟨B, s, ok, run_mono (run_bind q) fun rs s1 B1 H1 x1 ok1 k vs hv => ?_⟩
  revert k
  cases ea : allImm rs with
  | none => exact fun k => k.elim
  | some ds =>
    intro k
    simp only at k
    split at k
    · rename_i hz
      have hd := allImm_ok hv ea
      refine ⟨by rw [dps_len hd]; exact mx_le hz, fun q n => ?_⟩
      exact k B1 (upd H1 q (.lst vs)) (.newH n) (ok1.newH n) _ ⟨q, vs, rfl, x1.dom _ n, upd_same, ok1.bh.free n, hd, ok1.notOwn n⟩
    · exact k.elim
/-- *e in a display: e a list of whole items -/
def itemsOf : D → Option (List D)
  | .list ds => some ds
  | .tuple ds => some ds
  | _ => none
def faStar (f : FE) (g : FA) : FA := fun s => (f s).bind fun r s1 => match view s1 r with
  | some d => (match itemsOf d with
    | some ds => (g s1).bind fun rs s2 => .ok (ds.map RV.imm ++ rs) s2
    | none => .no)
  | none => .no
theorem rvs_imm {p : Pr} {H0 : Hp} {σ : St} {s : SD} {B H : Hp} : ∀ {vs : List V} {ds : List D} {ws : List V} {rs : List RV}, DpAll p.K B vs ds → RvsOk p H0 σ s B H ws rs → RvsOk p H0 σ s B H (vs ++ ws) (ds.map RV.imm ++ rs)
  | _, _, _, _, .nil, h => h
  | _, _, _, _, .cons a t, h => .cons a (rvs_imm t h)
theorem vw_items {K : PySem.W.Frag} {B H : Hp} {v : V} {d : D} {ds : List D} (bh : Same B H) (h : Vw K B H v d) (e : itemsOf d = some ds) : ∃ a vs, v = .ref a ∧ (SqT K H a vs ∨ SqL K H a vs) ∧ DpAll K B vs ds := by
  unfold itemsOf at e
  split at e
  · cases e
    obtain ⟨a, vs, h1, h2, h3⟩ := h.list bh
    exact ⟨a, vs, h1, .inr h2, h3⟩
  · cases e
    obtain ⟨a, vs, h1, h2, h3⟩ := h.tup bh
    exact ⟨a, vs, h1, .inl h2, h3⟩
  · cases e
theorem da_star {sp : Pos} (ha : PE X e (tE p W f)) (hr : PA X es (tA p W fa)) (eK : p.K = X.K := by rfl) (hs : starEach (.Starred e sp :: es) X.env = (true, eval e X.env) :: starEach es X.env := by rfl) : PA X (.Starred e sp :: es) (tA p W (faStar f fa)) := PA.imp (StX.pa_star ha hr hs) fun σ H Q h => by
  obtain ⟨B, s, ok, q⟩ := h
  refine ⟨B, s, ok, run_mono (run_bind q) fun r s1 B1 H1 x1 ok1 k v hv => ?_⟩
  revert k
  cases ev : view s1 r with
  | none => exact fun k => k.elim
  | some d =>
    cases ei : itemsOf d with
    | none =>
      intro k
      simp only [ei] at k
      exact k.elim
    | some ds =>
      intro k
      simp only [ei] at k
      obtain ⟨q, xs, e1, e2, e3⟩ := vw_items ok1.bh (vw_of hv ok1 ev) ei
      refine ⟨q, xs, e1, by rw [← eK]; exact e2, B1, s1, ok1, run_mono (run_bind k) fun rs s2 B2 H2 x2 ok2 k2 vs hvs => ?_⟩
      exact k2 B2 H2 .refl ok2 _ (rvs_imm (dps_same x2.bb _ _ e3) (hvs.back x1.dom))

/-! ### bools as values -/
def asB : RV → Option Bool
  | .imm (.bool b) => some b
  | _ => none
theorem asB_ok {p : Pr} {H0 : Hp} {σ : St} {s : SD} {B H : Hp} {v : V} {r : RV} {b : Bool} (h : RvOk p H0 σ s B H v r) (e : asB r = some b) : v = .bl b := by
  unfold asB at e
  split at e
  · cases e
    cases h
    rfl
  · cases e
def fAndV (f g : FE) : FE := fun s => (f s).bind fun r s1 => match asB r with
  | some true => g s1
  | some false => .ok (.imm (.bool false)) s1
  | none => .no
def fOrV (f g : FE) : FE := fun s => (f s).bind fun r s1 => match asB r with
  | some true => .ok (.imm (.bool true)) s1
  | some false => g s1
  | none => .no
def fNotV (f : FE) : FE := fun s => (f s).bind fun r s1 => match asB r with
  | some b => .ok (.imm (.bool !b)) s1
  | none => .no
theorem de_one {op} (h : PE X a (tE p W f)) : PE X (.BoolOp op [a] pos) (tE p W f) := pe_one h
theorem tE_of {σ : St} {H H1 B1 : Hp} {s1 : SD} {Q : VK} (x : ∀ b, H1 b = none → H b = none) (ok : StOk p B1 H1 σ s1) (h : run p W σ s1 B1 H1 (g s1) fun r s' B' H' => ∀ v, RvOk p H σ s' B' H' v r → Q v H') : tE p W g σ H1 Q :=
  ⟨B1, s1, ok, run_mono h fun r s' B' H' _ _ k v hv => k v (hv.back x)⟩
theorem de_and {rest : List Expr} (ha : PE X a (tE p W f)) (hb : PE X (.BoolOp .And (b :: rest) pos) (tE p W g)) : PE X (.BoolOp .And (a :: b :: rest) pos) (tE p W (fAndV f g)) := PE.imp (pe_and ha hb) fun σ H Q h => by
  obtain ⟨B, s, ok, q⟩ := h
  refine ⟨B, s, ok, run_mono (run_bind q) fun r s1 B1 H1 x1 ok1 k v hv => ?_⟩
  revert k
  cases ev : asB r with
  | none => exact fun k => k.elim
  | some d =>
    rw [asB_ok hv ev]
    cases d with
    | true => exact fun k => ⟨true, rfl, by rw [if_pos rfl]; exact tE_of x1.dom ok1 k⟩
    | false => exact fun k => ⟨false, rfl, by rw [if_neg Bool.false_ne_true]; exact k B1 H1 .refl ok1 _ (Dp.bl _)⟩
theorem de_or {rest : List Expr} (ha : PE X a (tE p W f)) (hb : PE X (.BoolOp .Or (b :: rest) pos) (tE p W g)) : PE X (.BoolOp .Or (a :: b :: rest) pos) (tE p W (fOrV f g)) := PE.imp (pe_or ha hb) fun σ H Q h => by
  obtain ⟨B, s, ok, q⟩ := h
  refine ⟨B, s, ok, run_mono (run_bind q) fun r s1 B1 H1 x1 ok1 k v hv => ?_⟩
  revert k
  cases ev : asB r with
  | none => exact fun k => k.elim
  | some d =>
    rw [asB_ok hv ev]
    cases d with
    | true => exact fun k => ⟨true, rfl, by rw [if_pos rfl]; exact k B1 H1 .refl ok1 _ (Dp.bl _)⟩
    | false => exact fun k => ⟨false, rfl, by rw [if_neg Bool.false_ne_true]; exact tE_of x1.dom ok1 k⟩
theorem de_not (ha : PE X a (tE p W f)) : PE X (.UnaryOp .Not a pos) (tE p W (fNotV f)) := PE.imp (pe_not ha) fun σ H Q h => by
  obtain ⟨B, s, ok, q⟩ := h
  refine ⟨B, s, ok, run_mono (run_bind q) fun r s1 B1 H1 x1 ok1 k v hv => ?_⟩
  revert k
  cases ev : asB r with
  | none => exact fun k => k.elim
  | some d =>
    rw [asB_ok hv ev]
    exact fun k => ⟨d, rfl, k B1 H1 .refl ok1 _ (Dp.bl _)⟩

/-! ### tests -/
def fTr (f : FE) : FT := fun s => (f s).bind fun r s1 => match asB r with
  | some b => .ok b s1
  | none => .no
theorem tr_of {σ : St} {H : Hp} {Q : Bool → Hp → Prop} (h : tT p W (fTr f) σ H Q) : tE p W f σ H fun x H' => ∃ k, x = .bl k ∧ Q k H' := by
  obtain ⟨B, s, ok, q⟩ := h
  refine ⟨B, s, ok, run_mono (run_bind q) fun r s1 B1 H1 x1 ok1 k v hv => ?_⟩
  revert k
  cases ev : asB r with
  | none => exact fun k => k.elim
  | some d =>
    rw [asB_ok hv ev]
    exact fun k => ⟨d, rfl, k B1 H1 .refl ok1⟩
theorem dt_val (h : PE X e (tE p W f)) (he : ∀ whole, isTrue e X.env whole = (do let v ← whole; standAt e.pos; holding [v] (truthy v)) := by intro _; rfl) : PT X e (tT p W (fTr f)) := PT.imp (pt_val h he) fun σ H Q q => tr_of q
theorem dt_cmp {op : CmpOp} {r : R2} {h : D → D → Option PO} (ho : OpR X (compareOp op) r) (hp : Prim2 p.K r h) (ha : PE X a (tE p W f)) (hb : PE X b (tE p W g)) (hm : behindInMarks op b = false) : PT X (.Compare a [op] [b] pos) (tT p W (fTr (f2 h f g))) :=
  PT.imp (pt_cmpR ho ha hb hm) fun σ H Q q => t2_of hp (tr_of q)
def fAnd (f g : FT) : FT := fun s => (f s).bind fun b s1 => match b with
  | true => g s1
  | false => .ok false s1
def fOr (f g : FT) : FT := fun s => (f s).bind fun b s1 => match b with
  | true => .ok true s1
  | false => g s1
def fNot (f : FT) : FT := fun s => (f s).bind fun b s1 => .ok (!b) s1
variable {u v : FT}
theorem dw_and1 (ha : PT X a (tT p W u)) : PW X (.BoolOp .And [a] pos) (tT p W u) := pw_and1 ha
theorem dw_or1 (ha : PT X a (tT p W u)) : PW X (.BoolOp .Or [a] pos) (tT p W u) := pw_or1 ha
theorem dw_and {rest : List Expr} (ha : PT X a (tT p W u)) (hb : PW X (.BoolOp .And (b :: rest) pos) (tT p W v)) : PW X (.BoolOp .And (a :: b :: rest) pos) (tT p W (fAnd u v)) := PW.imp (pw_and ha hb) fun σ H Q h => by
  obtain ⟨B, s, ok, q⟩ := h
  refine ⟨B, s, ok, run_mono (run_bind q) fun d s1 B1 H1 x1 ok1 k => ?_⟩
  cases d with
  | true => exact if_pos rfl ▸ ⟨B1, s1, ok1, k⟩
  | false =>
    rw [if_neg Bool.false_ne_true]
    exact k B1 H1 .refl ok1
theorem dw_or {rest : List Expr} (ha : PT X a (tT p W u)) (hb : PW X (.BoolOp .Or (b :: rest) pos) (tT p W v)) : PW X (.BoolOp .Or (a :: b :: rest) pos) (tT p W (fOr u v)) := PW.imp (pw_or ha hb) fun σ H Q h => by
  obtain ⟨B, s, ok, q⟩ := h
  refine ⟨B, s, ok, run_mono (run_bind q) fun d s1 B1 H1 x1 ok1 k => ?_⟩
  cases d with
  | true =>
    rw [if_pos rfl]
    exact k B1 H1 .refl ok1
  | false =>
    rw [if_neg Bool.false_ne_true]
    exact ⟨B1, s1, ok1, k⟩
theorem dt_not (ha : PT X a (tT p W u)) : PT X (.UnaryOp .Not a pos) (tT p W (fNot u)) := PT.imp (pt_not ha) fun σ H Q h => by
  obtain ⟨B, s, ok, q⟩ := h
  exact ⟨B, s, ok, run_mono (run_bind q) fun d s1 B1 H1 x1 ok1 k => k B1 H1 .refl ok1⟩
def fIf (u : FT) (f g : FE) : FE := fun s => (u s).bind fun b s1 => match b with
  | true => f s1
  | false => g s1
theorem de_if (hc : PT X c (tT p W u)) (ha : PE X a (tE p W f)) (hb : PE X b (tE p W g)) : PE X (.IfExp c a b pos) (tE p W (fIf u f g)) := PE.imp (pe_ifExp hc ha hb) fun σ H Q h => by
  obtain ⟨B, s, ok, q⟩ := h
  refine ⟨B, s, ok, run_mono (run_bind q) fun d s1 B1 H1 x1 ok1 k => ?_⟩
  cases d with
  | true =>
    rw [if_pos rfl]
    exact tE_of x1.dom ok1 k
  | false =>
    rw [if_neg Bool.false_ne_true]
    exact tE_of x1.dom ok1 k
end

/-! ### chains of comparisons -/
structure CH (X : Cx) (ops : List CmpOp) (es : List Expr) (t : V → St → Hp → VK → Prop) : Prop where
  run : ∀ (pos : Pos) (pins : List (Addr × Obj)) (s : Shared) (σ : St) (H : Hp) (x : V) (v : Value) (Q : VK), Inv X pins σ H s → RelV x v → t x σ H Q → wpAny (model X.prog X.w) X.A (compareChain pos v ops (evalEach es X.env)) (EP X pins σ Q) X.xe s
structure CT (X : Cx) (ops : List CmpOp) (es : List Expr) (t : V → St → Hp → VK → Prop) : Prop where
  run : ∀ (pos : Pos) (pins : List (Addr × Obj)) (s : Shared) (σ : St) (H : Hp) (x : V) (v : Value) (Q : Bool → Hp → Prop), Inv X pins σ H s → RelV x v → t x σ H (fun y H' => ∃ k, y = .bl k ∧ Q k H') → wpAny (model X.prog X.w) X.A (testChain pos v ops (evalEach es X.env)) (TP X pins σ Q) X.xe s
abbrev FC := RV → SD → R RV
def tC (p : Pr) (W : WX) (f : FC) : V → St → Hp → VK → Prop := fun x σ H Q => ∃ H0 B s r, StOk p B H σ s ∧ (∀ b, H b = none → H0 b = none) ∧ RvOk p H0 σ s B H x r ∧ run p W σ s B H (f r s) fun r' s' B' H' => ∀ v, RvOk p H0 σ s' B' H' v r' → Q v H'
def fcLast (h : D → D → Option PO) (g : FE) : FC := fun r s => (g s).bind fun r2 s2 => match view s2 r, view s2 r2 with
  | some d, some e => oR s2 (h d e)
  | _, _ => .no
def fcLink (h : D → D → Option PO) (g : FE) (k : FC) : FC := fun r s => (g s).bind fun r2 s2 => match view s2 r, view s2 r2 with
  | some d, some e => (match h d e with
    | some (.val (.bool true)) => k r2 s2
    | some (.val (.bool false)) => .ok (.imm (.bool false)) s2
    | _ => .no)
  | _, _ => .no
def fChain (f : FE) (k : FC) : FE := fun s => (f s).bind fun r s1 => k r s1
section
variable {X : Cx} {p : Pr} {W : WX} {f g : FE} {k : FC} {a b c e : Expr} {es : List Expr} {pos : Pos} {op op' : CmpOp} {ops : List CmpOp} {r : R2} {h : D → D → Option PO}
theorem last_of {σ : St} {H : Hp} {Q : VK} {x : V} (hp : Prim2 p.K r h) (q : tC p W (fcLast h g) x σ H Q) : tE p W g σ H fun y H1 => r x y H1 Q := by
  obtain ⟨H0, B, s, r1, ok, d0, hv, q⟩ := q
  refine ⟨B, s, ok, run_mono (run_bind q) fun r2 s2 B2 H2 x2 ok2 k2 w hw => ?_⟩
  revert k2
  cases e1 : view s2 r1 with
  | none => exact fun k => k.elim
  | some d =>
    cases e2 : view s2 r2 with
    | none => exact fun k => k.elim
    | some e =>
      cases eh : h d e with
      | none =>
        intro k
        simp only [eh] at k
        exact k.elim
      | some o =>
        intro k
        simp only [eh] at k
        exact hp B2 H2 x w d e o Q ok2.bh (vw_of (hv.later x2) ok2 e1) (vw_of hw ok2 e2) eh (po_post ok2 (fun b z => d0 b (x2.dom b z)) k)
theorem link_of {σ : St} {H : Hp} {Q : VK} {x : V} (hp : Prim2 p.K r h) (q : tC p W (fcLink h g k) x σ H Q) : tE p W g σ H fun y H1 => r x y H1 fun z H2 => ∃ b, z = .bl b ∧ if b = true then tC p W k y σ H2 Q else Q (.bl false) H2 := by
  obtain ⟨H0, B, s, r1, ok, d0, hv, q⟩ := q
  refine ⟨B, s, ok, run_mono (run_bind q) fun r2 s2 B2 H2 x2 ok2 k2 w hw => ?_⟩
  revert k2
  cases e1 : view s2 r1 with
  | none => exact fun k => k.elim
  | some d =>
    cases e2 : view s2 r2 with
    | none => exact fun k => k.elim
    | some e =>
      simp only
      split
      · rename_i eh
        intro k
        refine hp B2 H2 x w d e _ _ ok2.bh (vw_of (hv.later x2) ok2 e1) (vw_of hw ok2 e2) eh fun z hz => ?_
        cases hz
        refine ⟨true, rfl, ?_⟩
        rw [if_pos rfl]
        exact ⟨H0, B2, s2, r2, ok2, fun b z => d0 b (x2.dom b z), hw.back d0, k⟩
      · rename_i eh
        intro k
        refine hp B2 H2 x w d e _ _ ok2.bh (vw_of (hv.later x2) ok2 e1) (vw_of hw ok2 e2) eh fun z hz => ?_
        cases hz
        refine ⟨false, rfl, ?_⟩
        rw [if_neg Bool.false_ne_true]
        exact k B2 H2 .refl ok2 _ (Dp.bl _)
      · exact fun k => k.elim
theorem ch_last (ho : OpR X (compareOp op) r) (hp : Prim2 p.K r h) (hb : PE X b (tE p W g)) : CH X [op] [b] (tC p W (fcLast h g)) := by
  refine ⟨fun pos pins s σ H x v Q I rx q => ?_⟩
  exact chain_last (thn (hb.run pins s σ H _ I (last_of hp q)) fun u s2 ⟨y, H2, I2, r2, q2⟩ => ho pins s2 σ H2 x y v u Q I2 rx r2 q2)
theorem ch_link (ho : OpR X (compareOp op) r) (hp : Prim2 p.K r h) (hb : PE X b (tE p W g)) (hk : CH X (op' :: ops) (c :: es) (tC p W k)) : CH X (op :: op' :: ops) (b :: c :: es) (tC p W (fcLink h g k)) := by
  refine ⟨fun pos pins s σ H x v Q I rx q => ?_⟩
  refine chain_link (thn (hb.run pins s σ H _ I (link_of hp q)) fun u s2 ⟨y, H2, I2, r2, q2⟩ => thn (ho pins s2 σ H2 x y v u _ I2 rx r2 q2) fun d s3 ⟨z, H3, I3, r3, b', e, q3⟩ => ?_)
  subst e
  cases r3
  refine wpAny_truthy_bool ?_
  cases b' with
  | false => exact ite_ff ⟨.bl false, H3, I3, rfl, q3⟩
  | true => exact ite_tt (hk.run pos pins s3 σ H3 y u Q I3 r2 q3)
theorem ct_last (ho : OpR X (compareOp op) r) (hp : Prim2 p.K r h) (hb : PE X b (tE p W g)) : CT X [op] [b] (tC p W (fcLast h g)) := by
  refine ⟨fun pos pins s σ H x v Q I rx q => ?_⟩
  refine test_last (thn (hb.run pins s σ H _ I (last_of hp q)) fun u s2 ⟨y, H2, I2, r2, q2⟩ => thn (ho pins s2 σ H2 x y v u _ I2 rx r2 q2) fun d s3 ⟨z, H3, I3, r3, b', e, q3⟩ => ?_)
  subst e
  cases r3
  exact wpAny_truthy_bool ⟨H3, I3, q3⟩
theorem ct_link (ho : OpR X (compareOp op) r) (hp : Prim2 p.K r h) (hb : PE X b (tE p W g)) (hk : CT X (op' :: ops) (c :: es) (tC p W k)) : CT X (op :: op' :: ops) (b :: c :: es) (tC p W (fcLink h g k)) := by
  refine ⟨fun pos pins s σ H x v Q I rx q => ?_⟩
  refine test_link (thn (hb.run pins s σ H _ I (link_of hp q)) fun u s2 ⟨y, H2, I2, r2, q2⟩ => thn (ho pins s2 σ H2 x y v u _ I2 rx r2 q2) fun d s3 ⟨z, H3, I3, r3, b', e, q3⟩ => ?_)
  subst e
  cases r3
  refine wpAny_truthy_bool ?_
  cases b' with
  | false =>
    obtain ⟨k', e', q'⟩ := q3
    cases e'
    exact ite_ff ⟨H3, I3, q'⟩
  | true => exact ite_tt (hk.run pos pins s3 σ H3 y u Q I3 r2 q3)
theorem chain_of {σ : St} {H : Hp} {Q : VK} (q : tE p W (fChain f k) σ H Q) : tE p W f σ H fun x H1 => tC p W k x σ H1 Q := by
  obtain ⟨B, s, ok, q⟩ := q
  exact ⟨B, s, ok, run_mono (run_bind q) fun r s1 B1 H1 x1 ok1 k1 v hv => ⟨H, B1, s1, r, ok1, x1.dom, hv, k1⟩⟩
theorem de_chain (ha : PE X a (tE p W f)) (hk : CH X (op :: op' :: ops) (b :: c :: es) (tC p W k)) (hm : lastMarks (op :: op' :: ops) (b :: c :: es) = false := by with_unfolding_all rfl) : PE X (.Compare a (op :: op' :: ops) (b :: c :: es) pos) (tE p W (fChain f k)) := by
  refine ⟨fun pins s σ H Q I q => ?_⟩
  exact Compare_chain (thn (ha.run pins s σ H _ I (chain_of q)) fun v s1 ⟨x, H1, I1, r1, q1⟩ => hk.run pos pins s1 σ H1 x v Q I1 r1 q1) hm
theorem dt_chain (ha : PE X a (tE p W f)) (hk : CT X (op :: op' :: ops) (b :: c :: es) (tC p W k)) (hm : lastMarks (op :: op' :: ops) (b :: c :: es) = false := by with_unfolding_all rfl) : PT X (.Compare a (op :: op' :: ops) (b :: c :: es) pos) (tT p W (fTr (fChain f k))) := by
  refine ⟨fun pins s σ H Q I q => ?_⟩
  exact isTrue_chain (thn (ha.run pins s σ H _ I (chain_of (tr_of q))) fun v s1 ⟨x, H1, I1, r1, q1⟩ => hk.run pos pins s1 σ H1 x v Q I1 r1 q1) hm
end

/-! ### slices -/
abbrev FO := SD → R (Option Int)
def tO (p : Pr) (W : WX) (f : FO) : TO := fun σ H Q => ∃ B s, StOk p B H σ s ∧ run p W σ s B H (f s) fun i s' B' H' => Q i H'
def foNone : FO := fun s => .ok none s
def foSome (f : FE) : FO := fun s => (f s).bind fun r s1 => match r with
  | .imm (.int i) => .ok (some i) s1
  | _ => .no
def cutD (xs : List D) (lo hi : Option Int) : List D := (xs.drop (HT.sIx xs.length 0 lo)).take (HT.sIx xs.length xs.length hi - HT.sIx xs.length 0 lo)
def hSl : D → Option Int → Option Int → Option L2.V → Option PO
  | .list xs, lo, hi, _ => some (.lst (cutD xs lo hi))
  | .tuple xs, lo, hi, _ => if HT.sIx xs.length 0 lo = 0 ∧ HT.sIx xs.length xs.length hi = xs.length then some (.val (.tuple xs)) else some (.tup (cutD xs lo hi))
  | _, _, _, _ => none
def fSl (f : FE) (lo hi : FO) : FE := fun s => (f s).bind fun r s1 => (lo s1).bind fun l s2 => (hi s2).bind fun u s3 => match view s3 r with
  | some d => oR s3 (hSl d l u none)
  | none => .no
theorem dps_cut {K : PySem.W.Frag} {B : Hp} {vs : List V} {ds : List D} (lo hi : Option Int) (h : DpAll K B vs ds) : DpAll K B (cutV vs lo hi) (cutD ds lo hi) := by
  unfold cutV cutD
  rw [dps_len h]
  exact dps_take _ (dps_drop _ h)
section
variable {X : Cx} {p : Pr} {W : WX} {f : FE} {lo hi : FO} {e : Expr} {el eu : Option Expr} {pos p2 : Pos}
structure POd (X : Cx) (e : Option Expr) (t : TO) : Prop where
  h : L2.PO X e t
theorem do_none : POd X none (tO p W foNone) := ⟨⟨fun pins s σ H Q I h => po_none.run pins s σ H Q I (by
  obtain ⟨B, s, ok, q⟩ := h
  exact q B H .refl ok)⟩⟩
theorem do_some (ha : PE X e (tE p W f)) : POd X (some e) (tO p W (foSome f)) := ⟨⟨fun pins s σ H Q I h => (po_some ha).run pins s σ H Q I (by
  obtain ⟨B, s, ok, q⟩ := h
  refine ⟨B, s, ok, run_mono (run_bind q) fun r s1 B1 H1 x1 ok1 k v hv => ?_⟩
  revert k
  split
  · cases hv
    exact fun k => ⟨_, rfl, k B1 H1 .refl ok1⟩
  · exact fun k => k.elim)⟩⟩
def rSlD (K : PySem.W.Frag) : V → Option Int → Option Int → Hp → VK → Prop := fun x lo hi H Q => rSlL K x lo hi H Q ∨ rSlA K x lo hi H Q
theorem de_slice (ha : PE X e (tE p W f)) (hl : POd X el (tO p W lo)) (hu : POd X eu (tO p W hi)) (eK : p.K = X.K := by rfl) : PE X (.Subscript e (.Slice el eu none p2) pos) (tE p W (fSl f lo hi)) :=
  PE.imp (pe_slice (r := rSlD X.K) (SlR.or sl_list sl_tupA) ha hl.h hu.h) fun σ H Q h => by
  obtain ⟨B, s, ok, q⟩ := h
  refine ⟨B, s, ok, run_mono (run_bind q) fun r s1 B1 H1 x1 ok1 k v hv => ⟨B1, s1, ok1, run_mono (run_bind k) fun l s2 B2 H2 x2 ok2 k => ⟨B2, s2, ok2, run_mono (run_bind k) fun u s3 B3 H3 x3 ok3 k => ?_⟩⟩⟩
  revert k
  cases ev : view s3 r with
  | none => exact fun k => k.elim
  | some d =>
    have hw := vw_of ((hv.later x2).later x3) ok3 ev
    have d0 : ∀ b, H3 b = none → H b = none := fun b z => x1.dom b (x2.dom b (x3.dom b z))
    rw [← eK]
    cases eh : hSl d l u none with
    | none =>
      intro k
      simp only [eh] at k
      exact k.elim
    | some o =>
      intro k
      simp only [eh] at k
      have po := po_post ok3 d0 k
      unfold hSl at eh
      split at eh
      · cases eh
        obtain ⟨a, vs, rfl, h1, h2⟩ := hw.list ok3.bh
        exact .inl ⟨a, vs, rfl, h1, fun q n => po q _ n (dps_cut _ _ h2)⟩
      · have dv := hw.dpT
        obtain ⟨a, vs, rfl, h1, h2⟩ := hw.tup ok3.bh
        split at eh
        · rename_i c
          cases eh
          exact .inr ⟨a, vs, rfl, h1, fun _ => po _ dv, fun z => absurd (by rw [dps_len h2]; exact c) z⟩
        · rename_i c
          cases eh
          exact .inr ⟨a, vs, rfl, h1, fun z => absurd (by rw [dps_len h2] at z; exact z) c, fun _ q n => po q _ n (dps_cut _ _ h2)⟩
      · cases eh
end
end DL
end

set_option Elab.async false
set_option linter.all false
set_option maxRecDepth 100000
set_option maxHeartbeats 4000000
noncomputable section
namespace DL
open PySem PySem.Spec PyProof.Rows L2

/-! ### what is walked -/
/-- the heap grows by new data alone -/
structure Grow (B H B' H' : Hp) : Prop where
  bb : Same B B'
  bh : Same B' H'
  hh : Same H H'
  new : ∀ b, H b ≠ none → B b = none → B' b = none
theorem Grow.refl {B H : Hp} (h : Same B H) : Grow B H B H := ⟨Same.refl _, h, Same.refl _, fun _ _ e => e⟩
theorem Grow.newB {B H : Hp} {q : Addr} {o : HO} (bh : Same B H) (n : H q = none) : Grow B H (upd B q o) (upd H q o) :=
  ⟨same_upd (bh.free n), same_upd2 bh, same_upd n, fun b h e => by
    rw [upd_ne (fun z => h (by rw [z]; exact n))]
    exact e⟩
theorem Grow.ext {B H B' H' : Hp} (g : Grow B H B' H') {σ : St} {s : SD} : Ext σ s s B H B' H' := ⟨g.bb, fun b o h _ => g.hh b o h, fun b h => g.hh.free h, g.new, fun _ _ h => h⟩
theorem StOk.grows {p : Pr} {B H B' H' : Hp} {σ : St} {s : SD} (ok : StOk p B H σ s) (g : Grow B H B' H') : StOk p B' H' σ s := ok.grow g.bb g.bh g.hh g.new
/-- an iterator walks these items, wherever the heap has grown -/
def ItD (K : PySem.W.Frag) (B : Hp) (J : It) (ds : List D) : Prop := ∀ B2 H2, Same B B2 → Same B2 H2 →
  J.stop ds.length H2 ∧ ∀ (i : Nat) d, ds[i]? = some d → J.go i H2 ∧ ∀ x H3, J.yld i H2 x H3 → ∃ B3, Grow B2 H2 B3 H3 ∧ Dp K B3 x d
abbrev FI := SD → R (List D)
def tI (p : Pr) (W : WX) (f : FI) : TI := fun σ H Q => ∃ B s, StOk p B H σ s ∧ run p W σ s B H (f s) fun ds s' B' H' => ∀ J, ItD p.K B' J ds → Q J H'
theorem PI.imp {X : Cx} {tg e : Expr} {t t' : TI} (h : PI X tg e t) (f : ∀ σ H Q, t' σ H Q → t σ H Q) : PI X tg e t' := ⟨fun pins s σ H Q I q => h.run pins s σ H Q I (f _ _ _ q)⟩
theorem PI.or {X : Cx} {tg e : Expr} {t t' : TI} (h : PI X tg e t) (h' : PI X tg e t') : PI X tg e (fun σ H Q => t σ H Q ∨ t' σ H Q) := ⟨fun pins s σ H Q I q => by
  rcases q with q | q
  · exact h.run pins s σ H Q I q
  · exact h'.run pins s σ H Q I q⟩
/-- over a list or a tuple that stands still -/
def fIt (f : FE) : FI := fun s => (f s).bind fun r s1 => match r with
  | .imm (.list ds) => .ok ds s1
  | .imm (.tuple ds) => .ok ds s1
  | _ => .no
theorem itd_list {K : PySem.W.Frag} {B : Hp} {a : Addr} {vs : List V} {ds : List D} (h : SqL K B a vs) (hd : DpAll K B vs ds) : ItD K B (Itl K a) ds := fun B2 H2 b1 b2 => by
  have hs : SqL K H2 a vs := sqL_same b2 (sqL_same b1 h)
  refine ⟨⟨vs, hs, Nat.le_of_eq (dps_len hd)⟩, fun i d e => ?_⟩
  obtain ⟨v, hv, hx⟩ := dps_get hd e
  refine ⟨⟨vs, v, hs, hv⟩, fun x H3 y => ?_⟩
  obtain ⟨rfl, y⟩ := y
  have ex : v = x := Option.some.inj (hv.symm.trans (y vs hs))
  subst ex
  exact ⟨B2, .refl b2, dp_same b1 _ _ hx⟩
theorem itd_tup {K : PySem.W.Frag} {B : Hp} {a : Addr} {vs : List V} {ds : List D} (h : SqT K B a vs) (hd : DpAll K B vs ds) : ItD K B (Itt K a) ds := fun B2 H2 b1 b2 => by
  have hs : SqT K H2 a vs := sqT_same b2 (sqT_same b1 h)
  refine ⟨⟨vs, hs, Nat.le_of_eq (dps_len hd)⟩, fun i d e => ?_⟩
  obtain ⟨v, hv, hx⟩ := dps_get hd e
  refine ⟨⟨vs, v, hs, hv⟩, fun x H3 y => ?_⟩
  obtain ⟨rfl, y⟩ := y
  have ex : v = x := Option.some.inj (hv.symm.trans (y vs hs))
  subst ex
  exact ⟨B2, .refl b2, dp_same b1 _ _ hx⟩
/-- the ints of a range -/
def rgFrom (lo : Int) : Nat → List D
  | 0 => []
  | n + 1 => .int lo :: rgFrom (lo + 1) n
theorem rgFrom_len : ∀ (n : Nat) (lo : Int), (rgFrom lo n).length = n
  | 0, _ => rfl
  | n + 1, lo => congrArg (· + 1) (rgFrom_len n (lo + 1))
theorem rgFrom_get : ∀ (n : Nat) (lo : Int) (i : Nat) (d : D), (rgFrom lo n)[i]? = some d → d = .int (lo + i)
  | 0, _, _, _, h => by simp [rgFrom] at h
  | n + 1, lo, 0, d, h => by
    have e := Option.some.inj h
    rw [← e]
    simp
  | n + 1, lo, i + 1, d, h => by
    rw [rgFrom_get n (lo + 1) i d h]
    congr 1
    omega
theorem itd_rng {K : PySem.W.Frag} {B : Hp} (lo : Int) (n : Nat) : ItD K B (Itr lo n) (rgFrom lo n) := fun B2 H2 b1 b2 => by
  refine ⟨by rw [rgFrom_len]; exact Nat.le_refl _, fun i d e => ?_⟩
  have hi := (List.getElem?_eq_some_iff.mp e).1
  rw [rgFrom_len] at hi
  refine ⟨hi, fun x H3 y => ?_⟩
  obtain ⟨rfl, rfl⟩ := y
  rw [rgFrom_get n lo i d e]
  exact ⟨B2, .refl b2, .int _⟩
def bnd62 (i : Int) : Bool := decide (-4611686018427387904 ≤ i) && decide (i < 4611686018427387904)
theorem p62 : (2 : Int) ^ 62 = 4611686018427387904 := by decide
def fRng1 (f : FA) : FI := fun s => (f s).bind fun rs s1 => match rs with
  | [.imm (.int j)] => if bnd62 j then .ok (rgFrom 0 j.toNat) s1 else .no
  | _ => .no
def fRng2 (f : FA) : FI := fun s => (f s).bind fun rs s1 => match rs with
  | [.imm (.int i), .imm (.int j)] => if bnd62 i && bnd62 j then .ok (rgFrom i (j - i).toNat) s1 else .no
  | _ => .no
section
variable {X : Cx} {p : Pr} {W : WX} {f : FE} {fa : FA} {tg a b e : Expr} {pos p' : Pos}
theorem di_it (ha : PE X e (tE p W f)) (eK : p.K = X.K := by rfl) : PI X tg e (tI p W (fIt f)) := PI.imp (PI.or (pi_list ha) (pi_tup ha)) fun σ H Q h => by
  obtain ⟨B, s, ok, q⟩ := h
  unfold fIt at q
  cases ef : f s with
  | no =>
    rw [ef] at q
    exact q.elim
  | ex e' s' => exact .inl ⟨B, s, ok, by rw [ef] at q ⊢; exact q⟩
  | ok r1 s1 =>
    rw [ef] at q
    simp only [R.bind] at q
    split at q
    · rename_i ds
      refine .inl ⟨B, s, ok, ?_⟩
      rw [ef]
      intro B1 H1 x1 ok1 v hv
      cases hv with
      | lst hs hd => exact ⟨_, rfl, ⟨_, by rw [← eK]; exact sqL_same ok1.bh hs⟩, q B1 H1 x1 ok1 _ (by rw [← eK]; exact itd_list hs hd)⟩
    · rename_i ds
      refine .inr ⟨B, s, ok, ?_⟩
      rw [ef]
      intro B1 H1 x1 ok1 v hv
      cases hv with
      | tup hs hd => exact ⟨_, rfl, ⟨_, by rw [← eK]; exact sqT_same ok1.bh hs⟩, q B1 H1 x1 ok1 _ (by rw [← eK]; exact itd_tup hs hd)⟩
    · exact q.elim
theorem bnd62_ok {i : Int} (h : bnd62 i = true) : -(2 ^ 62) ≤ i ∧ i < 2 ^ 62 := by
  rw [p62]
  unfold bnd62 at h
  rw [Bool.and_eq_true, decide_eq_true_eq, decide_eq_true_eq] at h
  exact h
theorem di_rng1 (hg : Gl X "range") (hm : X.mg "range" = none) (ha : PA X [a] (tA p W fa)) (hs : starEach [a] X.env = [(false, eval a X.env)] := by rfl) : PI X tg (.Call (.Name "range" p') [a] [] pos) (tI p W (fRng1 fa)) := PI.imp (pi_range1 hg hm ha hs) fun σ H Q h => by
  obtain ⟨B, s, ok, q⟩ := h
  refine ⟨B, s, ok, run_mono (run_bind q) fun rs s1 B1 H1 x1 ok1 k vs hv => ?_⟩
  revert k
  split
  · intro k
    split at k
    · rename_i j hb
      cases hv with
      | cons h t =>
        cases t
        cases h
        obtain ⟨h1, h2⟩ := bnd62_ok hb
        exact ⟨_, rfl, h1, h2, k B1 H1 .refl ok1 _ (itd_rng _ _)⟩
    · exact k.elim
  · exact fun k => k.elim
theorem di_rng2 (hg : Gl X "range") (hm : X.mg "range" = none) (ha : PA X [a, b] (tA p W fa)) (hs : starEach [a, b] X.env = [(false, eval a X.env), (false, eval b X.env)] := by rfl) (hs2 : starEach [b] X.env = [(false, eval b X.env)] := by rfl) :
    PI X tg (.Call (.Name "range" p') [a, b] [] pos) (tI p W (fRng2 fa)) := PI.imp (pi_range2 hg hm ha hs hs2) fun σ H Q h => by
  obtain ⟨B, s, ok, q⟩ := h
  refine ⟨B, s, ok, run_mono (run_bind q) fun rs s1 B1 H1 x1 ok1 k vs hv => ?_⟩
  revert k
  split
  · intro k
    split at k
    · rename_i i j hb
      rw [Bool.and_eq_true] at hb
      cases hv with
      | cons h t =>
        cases t with
        | cons h' t' =>
          cases t'
          cases h
          cases h'
          obtain ⟨h1, h2⟩ := bnd62_ok hb.1
          obtain ⟨h3, h4⟩ := bnd62_ok hb.2
          exact ⟨_, _, rfl, ⟨h1, h2, h3, h4⟩, k B1 H1 .refl ok1 _ (itd_rng _ _)⟩
    · exact k.elim
  · exact fun k => k.elim
end

/-! ### targets: slots that take data -/
def setV1 (σ : St) (i : Nat) (v : V) : St := σ.set i (some v)
def setsV : St → List Nat → List V → St
  | σ, i :: is, v :: vs => setsV (σ.set i (some v)) is vs
  | σ, _, _ => σ
def setD (s : SD) (i : Nat) (d : DV) : Option SD := match getS s i with
  | some (some (.lent _)) => none
  | some _ => some (setS s i (some d))
  | none => none
def setsD : SD → List Nat → List D → Option SD
  | s, [], [] => some s
  | s, i :: is, d :: ds => (setD s i (.imm d)).bind fun s' => setsD s' is ds
  | _, _, _ => none
theorem owns_set {σ : St} {s : SD} {i j : Nat} {x : Option V} {d : D} {a : Addr} (h : Owns (σ.set i x) (s.set i (some (.imm d))) j a) : Owns σ s j a := by
  obtain ⟨h1, xs, h2⟩ := h
  by_cases e : i = j
  · subst e
    have hi : i < s.length := by
      rcases h2 with h2 | h2 <;> (have := (List.getElem?_eq_some_iff.mp h2).1; simpa using this)
    rw [List.getElem?_set_self hi] at h2
    rcases h2 with h2 | h2 <;> cases h2
  · rw [List.getElem?_set_ne e] at h1 h2
    exact ⟨h1, xs, h2⟩
theorem setD_imm {p : Pr} {B H : Hp} {σ : St} {s s' : SD} {i : Nat} {v : V} {d : D} (ok : StOk p B H σ s) (hv : Dp p.K B v d) (e : setD s i (.imm d) = some s') : StOk p B H (σ.set i (some v)) s' := by
  unfold setD at e
  rw [getS_eq] at e
  simp only [setS_eq] at e
  split at e
  · cases e
  · rename_i dv nl q
    cases e
    have hl : p.L i = none := by
      have hi := (List.getElem?_eq_some_iff.mp q).1
      have hσ : i < σ.length := by rw [ok.len]; exact hi
      have z := ok.slot i dv _ q (List.getElem?_eq_getElem hσ)
      match dv, nl, z with
      | none, _, z => exact z
      | some (.imm _), _, z => exact z.1
      | some (.own _), _, z => exact z.1
      | some (.lent xs), nl, _ => exact (nl xs rfl).elim
      | some .exc, _, z => exact z.1
    refine ⟨by rw [List.length_set, List.length_set]; exact ok.len, fun j dj vj e1 e2 => ?_, fun j k a o1 o2 => ok.sep j k a (owns_set o1) (owns_set o2), ok.b0, ok.bh, ok.fr, ok.dom, ok.new⟩
    by_cases ej : i = j
    · subst ej
      rw [List.getElem?_set_self (by have := (List.getElem?_eq_some_iff.mp e1).1; simpa using this)] at e1
      rw [List.getElem?_set_self (by have := (List.getElem?_eq_some_iff.mp e2).1; simpa using this)] at e2
      cases e1
      cases e2
      exact ⟨hl, v, rfl, hv⟩
    · rw [List.getElem?_set_ne ej] at e1 e2
      exact ok.slot j dj vj e1 e2
  · cases e
theorem setsD_ok {p : Pr} {B H : Hp} : ∀ {is : List Nat} {σ : St} {s s' : SD} {vs : List V} {ds : List D}, StOk p B H σ s → DpAll p.K B vs ds → setsD s is ds = some s' → StOk p B H (setsV σ is vs) s'
  | [], σ, s, s', vs, ds, ok, h, e => by
    cases h with
    | nil =>
      cases e
      exact ok
    | cons _ _ => cases e
  | i :: is, σ, s, s', vs, ds, ok, h, e => by
    cases h with
    | nil => cases e
    | cons h t =>
      unfold setsD at e
      rename_i v vs' d ds'
      cases q : setD s i (.imm d) with
      | none =>
        rw [q] at e
        cases e
      | some s1 =>
        rw [q] at e
        show StOk p B H (setsV (σ.set i (some v)) is vs') s'
        exact setsD_ok (setD_imm ok h q) t e
theorem wipe_set {σ : St} {i : Nat} {x : Option V} : ∀ {ws : List Nat}, i ∈ ws → wipe (σ.set i x) ws = wipe σ ws
  | [], h => nomatch h
  | w :: ws, h => by
    unfold wipe
    by_cases e : i = w
    · subst e
      by_cases m : i ∈ ws
      · rw [wipe_set m]
      · clear h
        induction ws with
        | nil =>
          show (σ.set i x).set i none = σ.set i none
          rw [List.set_set]
        | cons y ys ih =>
          have hy : i ≠ y := fun z => m (by rw [z]; exact List.mem_cons_self)
          unfold wipe
          rw [List.set_comm _ _ hy.symm, ih (fun z => m (List.mem_cons_of_mem _ z)), List.set_comm _ _ hy]
    · have m : i ∈ ws := by
        rcases List.mem_cons.mp h with z | z
        · exact absurd z e
        · exact z
      rw [wipe_set m]
theorem wipe_sets : ∀ {is : List Nat} {σ : St} {vs : List V} {ws : List Nat}, (∀ i ∈ is, i ∈ ws) → wipe (setsV σ is vs) ws = wipe σ ws
  | [], _, _, _, _ => rfl
  | i :: is, σ, [], ws, h => rfl
  | i :: is, σ, v :: vs, ws, h => by
    show wipe (setsV (σ.set i (some v)) is vs) ws = _
    rw [wipe_sets fun j hj => h j (List.mem_cons_of_mem _ hj), wipe_set (h i List.mem_cons_self)]
/-- a target: it takes data to slots -/
structure TqD (p : Pr) (t : TG) (is : List Nat) (g : D → SD → Option SD) : Prop where
  run : ∀ (B H : Hp) (σ : St) (s s' : SD) (v : V) (d : D) (Q : St → Hp → Prop), StOk p B H σ s → Dp p.K B v d → g d s = some s' → (∀ vs, vs.length = is.length → StOk p B H (setsV σ is vs) s' → Q (setsV σ is vs) H) → t v σ H Q
  own : ∀ (σ : St) (s s' : SD) (vs : List V) (d : D) (j : Nat) (a : Addr), vs.length = is.length → g d s = some s' → Owns (setsV σ is vs) s' j a → Owns σ s j a
theorem owns_setD {σ : St} {s s' : SD} {i j : Nat} {v : V} {d : D} {a : Addr} (e : setD s i (.imm d) = some s') (h : Owns (σ.set i (some v)) s' j a) : Owns σ s j a := by
  unfold setD at e
  rw [getS_eq] at e
  simp only [setS_eq] at e
  split at e
  · cases e
  · cases e
    exact owns_set h
  · cases e
theorem owns_setsD : ∀ {is : List Nat} {σ : St} {s s' : SD} {vs : List V} {ds : List D} {j : Nat} {a : Addr}, vs.length = is.length → setsD s is ds = some s' → Owns (setsV σ is vs) s' j a → Owns σ s j a
  | [], _, _, _, _, [], _, _, _, e, h => by
    cases e
    exact h
  | [], _, _, _, _, _ :: _, _, _, _, e, _ => by cases e
  | i :: is, _, _, _, _, [], _, _, _, e, _ => by cases e
  | i :: is, σ, s, s', [], d :: ds, j, a, hl, e, h => by cases hl
  | i :: is, σ, s, s', v :: vs, d :: ds, j, a, hl, e, h => by
    unfold setsD at e
    cases q : setD s i (.imm d) with
    | none =>
      rw [q] at e
      cases e
    | some s1 =>
      rw [q] at e
      exact owns_setD q (owns_setsD (by simpa using hl) e h)
def gOne (i : Nat) : D → SD → Option SD := fun d s => setD s i (.imm d)
def gMany (is : List Nat) : D → SD → Option SD := fun d s => match d with
  | .tuple ds => setsD s is ds
  | _ => none
structure TqsD (t : TGs) (is : List Nat) (n : Nat) : Prop where
  len : n = is.length
  run : ∀ (σ : St) (H : Hp) (vs : List V) (Q : St → Hp → Prop), vs.length = is.length → Q (setsV σ is vs) H → t vs σ H Q
section
variable {p : Pr} {is : List Nat} {n : Nat}
theorem tq_one (i : Nat) : TqD p (gName i) [i] (gOne i) :=
  ⟨fun B H σ s s' v d Q ok hv e hq => hq [v] rfl (setD_imm ok hv e), fun σ s s' vs d j a hl e h => by
    match vs, hl with
    | [v], _ => exact owns_setD e h⟩
theorem tqs_nil : TqsD gNil [] 0 := ⟨rfl, fun σ H vs Q hl hq => by
  cases vs with
  | nil => exact ⟨rfl, hq⟩
  | cons _ _ => cases hl⟩
theorem tqs_cons (i : Nat) {t : TGs} (h : TqsD t is n) : TqsD (gCons (gName i) t) (i :: is) (n + 1) := ⟨by rw [h.len]; rfl, fun σ H vs Q hl hq => by
  cases vs with
  | nil => cases hl
  | cons v vs => exact ⟨v, vs, rfl, h.run _ H vs Q (by simpa using hl) hq⟩⟩
theorem tq_many {K : PySem.W.Frag} {t : TGs} (h : TqsD t is n) (eK : p.K = K := by rfl) : TqD p (gTup K n t) is (gMany is) := by
  refine ⟨fun B H σ s s' v d Q ok hv e hq => ?_, fun σ s s' vs d j a hl e h => by
    unfold gMany at e
    split at e
    · exact owns_setsD hl e h
    · cases e⟩
  unfold gMany at e
  split at e
  · rename_i ds
    cases hv with
    | tup hs hd =>
      rename_i a vs
      have hl : ∀ {is : List Nat} {ds : List D} {s s' : SD}, setsD s is ds = some s' → ds.length = is.length := by
        intro is
        induction is with
        | nil =>
          intro ds s s' e
          cases ds with
          | nil => rfl
          | cons _ _ => cases e
        | cons i is ih =>
          intro ds s s' e
          cases ds with
          | nil => cases e
          | cons d ds =>
            unfold setsD at e
            cases q : setD s i (.imm d) with
            | none =>
              rw [q] at e
              cases e
            | some s1 =>
              rw [q] at e
              exact congrArg (· + 1) (ih e)
      have hl' : vs.length = is.length := (dps_len hd).trans (hl e)
      exact ⟨a, vs, rfl, by rw [← eK]; exact sqT_same ok.bh hs, by rw [hl', h.len], h.run σ H vs Q hl' (hq vs hl' (setsD_ok ok hd e))⟩
  · cases e
end

/-! ### for -/
/-- the turns of a loop, the rest behind it -/
def loopF (g : D → SD → Option SD) (body : FS) : List D → SD → RS
  | [], s => .nx s
  | d :: ds, s => match g d s with
    | none => .no
    | some s1 => match body s1 with
      | .nx s2 => loopF g body ds s2
      | .ct s2 => loopF g body ds s2
      | .bk s2 => .nx s2
      | .rt r s2 => .rt r s2
      | .ex e s2 => .ex e s2
      | .no => .no
def R.stm {α : Type} (r : R α) (k : α → SD → RS) : RS := match r with
  | .ok a s1 => k a s1
  | .ex e s1 => .ex e s1
  | .no => .no
def fFor (it : FI) (g : D → SD → Option SD) (body : FS) : FS := fun s => (it s).stm fun ds s1 => loopF g body ds s1
/-- from a statement's start: a part of it is an expression's run -/
theorem run_sat {α : Type} {p : Pr} {W : WX} {σ : St} {s : SD} {B H : Hp} {r : R α} {D : Ends} {k : α → SD → RS} (h : sat p W B D (r.stm k)) : run p W σ s B H r fun a s1 B1 H1 => sat p W B1 D (k a s1) := by
  cases r with
  | ok a s1 => exact fun B1 H1 x1 ok1 => sat_later x1.bb h
  | ex e s1 => exact fun B1 H1 cls d x1 ok1 ex => h σ B1 H1 cls d x1.bb ok1 ex
  | no => exact h
section
variable {X : Cx} {p : Pr} {W : WX} {it : FI} {is : List Nat} {g : D → SD → Option SD} {fb : FS} {tg iter : Expr} {body : List Stmt} {pos : Pos} {t : TG}
theorem ds_for (hp : PassesOwn (model X.prog X.w) X.A X.env X.xe) (hc : X.calm = true) (hi : PI X tg iter (tI p W it)) (ht : PG X tg t) (hg : TqD p t is g) (hb : PSs X body (tS p W fb))
    (hs : ∀ x, foldedSetIterable iter X.env x = pure x := by intro _; rfl) : PS X (.For tg iter body [] pos) (tS p W (fFor it g fb)) := by
  have hq := hg.run
  refine PS.imp (ps_for hp hc hi ht hb hs) fun D σ H h => ?_
  obtain ⟨B, s, ok, h⟩ := h
  refine ⟨B, s, ok, run_mono (run_sat (k := fun ds s1 => loopF g fb ds s1) h) fun ds s1 B1 H1 x1 ok1 k J hJ => ?_⟩
  refine ⟨fun i m σ' H' => m = ds.length - i ∧ i ≤ ds.length ∧ ∃ B' s', Same B1 B' ∧ StOk p B' H' σ' s' ∧ sat p W B' D (loopF g fb (ds.drop i) s'), ⟨ds.length, by simp, Nat.zero_le _, B1, s1, Same.refl _, ok1, k⟩, ?_⟩
  rintro i m σ' H' ⟨rfl, hi, B', s', b1, ok', k'⟩
  obtain ⟨j1, j2⟩ := hJ B' H' b1 ok'.bh
  by_cases hlt : i < ds.length
  · have ed : ds[i]? = some ds[i] := List.getElem?_eq_getElem hlt
    obtain ⟨go, yl⟩ := j2 i _ ed
    rw [List.drop_eq_getElem_cons hlt] at k'
    refine .inr ⟨go, fun σ2 H2 => ∃ B2 s2, Same B1 B2 ∧ StOk p B2 H2 σ2 s2 ∧ sat p W B2 D (loopF g fb (ds.drop (i + 1)) s2), fun σ2 H2 q => ⟨ds.length - (i + 1), by omega, rfl, hlt, q⟩, fun x H2 y => ?_⟩
    obtain ⟨B2, gr, hx⟩ := yl x H2 y
    unfold loopF at k'
    cases eg : g ds[i] s' with
    | none =>
      rw [eg] at k'
      exact k'.elim
    | some s2 =>
      rw [eg] at k'
      dsimp only at k'
      refine hq B2 H2 σ' s' s2 x _ _ (ok'.grows gr) hx eg fun vs _ ok2 => ?_
      refine ⟨B2, s2, ok2, ?_⟩
      revert k'
      cases fb s2 with
      | nx s3 => exact fun k' σ3 B3 H3 b3 ok3 => ⟨B3, s3, (b1.trans gr.bb).trans b3, ok3, sat_later (gr.bb.trans b3) k'⟩
      | ct s3 => exact fun k' σ3 B3 H3 b3 ok3 => ⟨B3, s3, (b1.trans gr.bb).trans b3, ok3, sat_later (gr.bb.trans b3) k'⟩
      | bk s3 => exact fun k' σ3 B3 H3 b3 ok3 => k' σ3 B3 H3 (gr.bb.trans b3) ok3
      | rt r s3 => exact fun k' => sat_later gr.bb k'
      | ex e s3 => exact fun k' => sat_later gr.bb k'
      | no => exact fun k' => k'
  · have e : i = ds.length := by omega
    subst e
    rw [List.drop_length] at k'
    exact .inl ⟨j1, k' σ' B' H' (Same.refl _) ok'⟩
end

/-! ### a comprehension -/
def wipeD (s : SD) : List Nat → SD
  | [] => s
  | v :: vs => setS (wipeD s vs) v none
/-- the slots of the block's own names are those that stood -/
def backD (s0 s : SD) : List Nat → SD
  | [] => s
  | v :: vs => setS (backD s0 s vs) v (match getS s0 v with | some x => x | none => none)
def plainAt (s : SD) (i : Nat) : Bool := match getS s i with
  | some (some (.own _)) => false
  | some (some (.lent _)) => false
  | some _ => true
  | none => false
def loopC (g : D → SD → Option SD) (cond : FT) (elt : FE) (vs : List Nat) : List D → SD → List D → R (List D)
  | [], s, acc => .ok acc s
  | d :: ds, s, acc => match g d s with
    | none => .no
    | some s1 => match cond s1 with
      | .ok true s2 => (match elt s2 with
        | .ok (.imm x) s3 => if acc.length < mx then loopC g cond elt vs ds (wipeD s3 vs) (acc ++ [x]) else .no
        | _ => .no)
      | .ok false s2 => loopC g cond elt vs ds (wipeD s2 vs) acc
      | _ => .no
def fLc (it : FI) (vs : List Nat) (g : D → SD → Option SD) (cond : FT) (elt : FE) : FE := fun s => (it s).bind fun ds s1 =>
  if vs.all (plainAt s1) then (match loopC g cond elt vs ds (wipeD s1 vs) [] with
    | .ok acc s2 => .ok (.tmp acc) (backD s1 s2 vs)
    | _ => .no) else .no
theorem wipeD_get {s : SD} {j : Nat} : ∀ {vs : List Nat}, (wipeD s vs)[j]? = if j ∈ vs ∧ j < s.length then some none else s[j]?
  | [] => by simp [wipeD]
  | v :: vs => by
    have hl : ∀ {us : List Nat}, (wipeD s us).length = s.length := fun {us} => by
      induction us with
      | nil => rfl
      | cons u us ih => unfold wipeD; rw [setS_eq, List.length_set, ih]
    unfold wipeD
    rw [setS_eq]
    by_cases e : v = j
    · subst e
      by_cases h : v < s.length
      · rw [List.getElem?_set_self (by rw [hl]; exact h), if_pos ⟨List.mem_cons_self, h⟩]
      · rw [List.getElem?_eq_none (by rw [List.length_set, hl]; omega), if_neg (fun z => h z.2), List.getElem?_eq_none (by omega)]
    · rw [List.getElem?_set_ne e, wipeD_get]
      have : (j ∈ v :: vs) ↔ j ∈ vs := ⟨fun z => (List.mem_cons.mp z).elim (fun q => absurd q.symm e) id, fun z => List.mem_cons_of_mem _ z⟩
      simp only [this]
theorem wipeD_len {s : SD} : ∀ {vs : List Nat}, (wipeD s vs).length = s.length
  | [] => rfl
  | u :: us => by unfold wipeD; rw [setS_eq, List.length_set, wipeD_len]
theorem backD_len {s0 s : SD} : ∀ {vs : List Nat}, (backD s0 s vs).length = s.length
  | [] => rfl
  | u :: us => by unfold backD; rw [setS_eq, List.length_set, backD_len]
theorem getD_eq (s0 : SD) (v : Nat) : (match s0[v]? with | some x => x | none => none) = s0.getD v none := by
  rw [List.getD_eq_getElem?_getD]
  cases s0[v]? <;> rfl
theorem backD_get {s0 s : SD} {j : Nat} : ∀ {vs : List Nat}, (backD s0 s vs)[j]? = if j ∈ vs ∧ j < s.length then some (s0.getD j none) else s[j]?
  | [] => by simp [backD]
  | v :: vs => by
    unfold backD
    rw [setS_eq, getS_eq, getD_eq]
    by_cases e : v = j
    · subst e
      by_cases h : v < s.length
      · rw [List.getElem?_set_self (by rw [backD_len]; exact h), if_pos ⟨List.mem_cons_self, h⟩]
      · rw [List.getElem?_eq_none (by rw [List.length_set, backD_len]; omega), if_neg (fun z => h z.2), List.getElem?_eq_none (by omega)]
    · rw [List.getElem?_set_ne e, backD_get]
      have : (j ∈ v :: vs) ↔ j ∈ vs := ⟨fun z => (List.mem_cons.mp z).elim (fun q => absurd q.symm e) id, fun z => List.mem_cons_of_mem _ z⟩
      simp only [this]
theorem wipe_get {σ : St} {j : Nat} : ∀ {vs : List Nat}, (wipe σ vs)[j]? = if j ∈ vs ∧ j < σ.length then some none else σ[j]?
  | [] => by simp [wipe]
  | v :: vs => by
    unfold wipe
    by_cases e : v = j
    · subst e
      by_cases h : v < σ.length
      · rw [List.getElem?_set_self (by rw [wipe_length]; exact h), if_pos ⟨List.mem_cons_self, h⟩]
      · rw [List.getElem?_eq_none (by rw [List.length_set, wipe_length]; omega), if_neg (fun z => h z.2), List.getElem?_eq_none (by omega)]
    · rw [List.getElem?_set_ne e, wipe_get]
      have : (j ∈ v :: vs) ↔ j ∈ vs := ⟨fun z => (List.mem_cons.mp z).elim (fun q => absurd q.symm e) id, fun z => List.mem_cons_of_mem _ z⟩
      simp only [this]
theorem owns_wipe {σ : St} {s : SD} {vs : List Nat} {i : Nat} {a : Addr} (hl : σ.length = s.length) (h : Owns (wipe σ vs) (wipeD s vs) i a) : Owns σ s i a := by
  obtain ⟨h1, xs, h2⟩ := h
  rw [wipe_get] at h1
  rw [wipeD_get] at h2
  by_cases c : i ∈ vs ∧ i < s.length
  · rw [if_pos c] at h2
    rcases h2 with h2 | h2 <;> cases h2
  · rw [if_neg c] at h2
    rw [if_neg (by rw [hl]; exact c)] at h1
    exact ⟨h1, xs, h2⟩
theorem wipe_ok {p : Pr} {B H : Hp} {σ : St} {s : SD} {vs : List Nat} (ok : StOk p B H σ s) (hL : ∀ v ∈ vs, p.L v = none) : StOk p B H (wipe σ vs) (wipeD s vs) := by
  refine ⟨by rw [wipe_length, wipeD_len]; exact ok.len, fun i dv v e1 e2 => ?_, fun i j a o1 o2 => ok.sep i j a (owns_wipe ok.len o1) (owns_wipe ok.len o2), ok.b0, ok.bh, ok.fr, ok.dom, ok.new⟩
  rw [wipeD_get] at e1
  rw [wipe_get] at e2
  by_cases c : i ∈ vs ∧ i < s.length
  · rw [if_pos c] at e1
    cases e1
    exact hL i c.1
  · rw [if_neg c] at e1
    rw [if_neg (by rw [ok.len]; exact c)] at e2
    exact ok.slot i dv v e1 e2
theorem StOk.write {p : Pr} {B H : Hp} {σ : St} {s : SD} {c : Addr} {o : HO} (ok : StOk p B H σ s) (hz : p.Z c = none) (h2 : B c = none) (h4 : ∀ i, ¬ Owns σ s i c) : StOk p B (upd H c o) σ s := by
  have keep : ∀ b x, b ≠ c → H b = some x → upd H c o b = some x := fun b x hb e => by
    rw [upd_ne hb]
    exact e
  refine ⟨ok.len, fun i dv v e1 e2 => ?_, ok.sep, ok.b0, fun b x z => keep b x (fun w => by rw [w, h2] at z; cases z) (ok.bh b x z), fun b x z n => keep b x (fun w => by rw [w, hz] at z; cases z) (ok.fr b x z n), fun b z => ok.dom b (upd_none z), ok.new⟩
  have q := ok.slot i dv v e1 e2
  match dv, q with
  | none, q => exact q
  | some (.imm d), q => exact q
  | some (.own xs), ⟨l, a, us, e, z, h, n, r⟩ => exact ⟨l, a, us, e, z, keep a _ (fun w => h4 i (by rw [← w]; exact ⟨by rw [e2, e], xs, .inl e1⟩)) h, n, r⟩
  | some (.lent xs), ⟨a, us, l, e, h, n, r⟩ => exact ⟨a, us, l, e, keep a _ (fun w => h4 i (by rw [← w]; exact ⟨by rw [e2, e], xs, .inr e1⟩)) h, n, r⟩
  | some .exc, q => exact q
theorem plain_L {p : Pr} {B H : Hp} {σ : St} {s : SD} {i : Nat} (ok : StOk p B H σ s) (h : plainAt s i = true) : p.L i = none ∧ ∀ a, ¬ Owns σ s i a := by
  unfold plainAt at h
  rw [getS_eq] at h
  split at h
  · cases h
  · cases h
  · rename_i dv n1 n2 q
    have hi := (List.getElem?_eq_some_iff.mp q).1
    have hσ : i < σ.length := by rw [ok.len]; exact hi
    have z := ok.slot i dv _ q (List.getElem?_eq_getElem hσ)
    refine ⟨?_, fun a o => ?_⟩
    · match dv, n1, n2, z with
      | none, _, _, z => exact z
      | some (.imm _), _, _, z => exact z.1
      | some (.own _), _, _, z => exact z.1
      | some (.lent xs), _, n2, _ => exact (n2 xs rfl).elim
      | some .exc, _, _, z => exact z.1
    · obtain ⟨_, xs, o | o⟩ := o
      · rw [q] at o
        exact n1 xs (Option.some.inj o)
      · rw [q] at o
        exact n2 xs (Option.some.inj o)
  · cases h
def WF : WX := fun _ _ _ _ => False
section
variable {X : Cx} {p : Pr} {W : WX} {it : FI} {is vs : List Nat} {g : D → SD → Option SD} {cond : FT} {fe : FE} {elt tg iter : Expr} {ifs : List Expr} {scope : Scope} {own : List (Str × Nat)} {pos : Pos}
theorem lc_of {σ : St} {H : Hp} {Q : VK} {t : TG} (hq : ∀ (B H : Hp) (σ : St) (s s' : SD) (v : V) (d : D) (Q : St → Hp → Prop), StOk p B H σ s → Dp p.K B v d → g d s = some s' → (∀ vs, vs.length = is.length → StOk p B H (setsV σ is vs) s' → Q (setsV σ is vs) H) → t v σ H Q)
    (ho : ∀ (σ : St) (s s' : SD) (vs : List V) (d : D) (j : Nat) (a : Addr), vs.length = is.length → g d s = some s' → Owns (setsV σ is vs) s' j a → Owns σ s j a)
    (hsub : ∀ i ∈ is, i ∈ vs) (h : tE p W (fLc it vs g cond fe) σ H Q) : tLc (tI p W it) t (tT p WF cond) (tE p WF fe) vs σ H Q := by
  obtain ⟨B, s, ok, q⟩ := h
  refine ⟨B, s, ok, run_mono (run_bind q) fun ds s1 B1 H1 x1 ok1 k J hJ D nD => ?_⟩
  revert k
  by_cases hpl : vs.all (plainAt s1) = true
  rotate_left
  · rw [if_neg hpl]
    exact fun k => k.elim
  rw [if_pos hpl]
  cases eL : loopC g cond fe vs ds (wipeD s1 vs) [] with
  | no => exact fun k => k.elim
  | ex _ _ => exact fun k => k.elim
  | ok accF sF =>
    intro k
    have pl : ∀ v ∈ vs, p.L v = none ∧ ∀ a, ¬ Owns σ s1 v a := fun v hv => plain_L ok1 (List.all_eq_true.mp hpl v hv)
    have hL : ∀ v ∈ vs, p.L v = none := fun v hv => (pl v hv).1
    have okw : StOk p B1 H1 (wipe σ vs) (wipeD s1 vs) := wipe_ok ok1 hL
    have idem : wipe (wipe σ vs) vs = wipe σ vs := by
      refine List.ext_getElem? fun j => ?_
      rw [wipe_get, wipe_length]
      by_cases c : j ∈ vs ∧ j < σ.length
      · rw [if_pos c, wipe_get, if_pos c]
      · rw [if_neg c]
    have zD : p.Z D = none := okw.dom D nD
    let Inv := fun (i : Nat) (H' : Hp) => ∃ B' s' acc vacc, Ext (wipe σ vs) (wipeD s1 vs) s' B1 H1 B' H' ∧ StOk p B' H' (wipe σ vs) s' ∧ H' D = some (.lst vacc) ∧ B' D = none ∧ DpAll p.K B' vacc acc ∧ (∀ j, ¬ Owns (wipe σ vs) s' j D) ∧ loopC g cond fe vs (ds.drop i) s' acc = .ok accF sF
    refine ⟨fun i m H' => m = ds.length - i ∧ i ≤ ds.length ∧ Inv i H', ⟨ds.length, by simp, Nat.zero_le _, B1, wipeD s1 vs, [], [], .newH nD, okw.newH nD, upd_same, ok1.bh.free nD, .nil, okw.notOwn nD, eL⟩, ?_⟩
    rintro i m H' ⟨rfl, hi, B', s', acc, vacc, x', ok', hD, bD, da, nO, el⟩
    obtain ⟨j1, j2⟩ := hJ B' H' x'.bb ok'.bh
    by_cases hlt : i < ds.length
    · have ed : ds[i]? = some ds[i] := List.getElem?_eq_getElem hlt
      obtain ⟨go, yl⟩ := j2 i _ ed
      rw [List.drop_eq_getElem_cons hlt] at el
      unfold loopC at el
      refine .inr ⟨go, Inv (i + 1), fun H2 q => ⟨ds.length - (i + 1), by omega, rfl, hlt, q⟩, fun x H2 y => ?_⟩
      obtain ⟨B2, gr, hx⟩ := yl x H2 y
      cases eg : g ds[i] s' with
      | none =>
        rw [eg] at el
        cases el
      | some s2 =>
        rw [eg] at el
        refine hq B2 H2 (wipe σ vs) s' s2 x _ _ (ok'.grows gr) hx eg fun us hus ok2 => ?_
        have ew : wipe (setsV (wipe σ vs) is us) vs = wipe σ vs := by rw [wipe_sets hsub, idem]
        refine ⟨by rw [ew], B2, s2, ok2, ?_⟩
        have ox : ∀ j a, Owns (setsV (wipe σ vs) is us) s2 j a → Owns (wipe σ vs) s' j a := fun j a o => ho _ _ _ us _ j a hus eg o
        have xg : Ext (wipe σ vs) s' s' B' H' B2 H2 := gr.ext
        have h2D : H2 D = some (.lst vacc) := gr.hh D _ hD
        have b2D : B2 D = none := gr.new D (by rw [hD]; exact fun z => nomatch z) bD
        -- a turn's end: the slots wiped again
        have fin : ∀ {s4 : SD} {B4 H4 : Hp}, Ext (setsV (wipe σ vs) is us) s2 s4 B2 H2 B4 H4 → StOk p B4 H4 (setsV (wipe σ vs) is us) s4 →
            Ext (wipe σ vs) (wipeD s1 vs) (wipeD s4 vs) B1 H1 B4 H4 ∧ StOk p B4 H4 (wipe σ vs) (wipeD s4 vs) ∧ (∀ j, ¬ Owns (wipe σ vs) (wipeD s4 vs) j D) ∧ H4 D = some (.lst vacc) ∧ B4 D = none := fun {s4 B4 H4} x4 ok4 => by
          have o4 : ∀ j a, Owns (wipe σ vs) (wipeD s4 vs) j a → Owns (wipe σ vs) s' j a := fun j a o => by
            rw [← ew] at o
            exact ox j a (x4.own j a (owns_wipe ok4.len o))
          have e4 : StOk p B4 H4 (wipe σ vs) (wipeD s4 vs) := by
            rw [← ew]
            exact wipe_ok ok4 hL
          refine ⟨⟨(x'.bb.trans gr.bb).trans x4.bb, fun b o z n => ?_, fun b z => x'.dom b (gr.hh.free (x4.dom b z)), fun b z e => ?_, fun j a o => x'.own j a (o4 j a o)⟩, e4, fun j o => nO j (o4 j D o), x4.hh D _ h2D fun j o => nO j (ox j D o), x4.new D (by rw [h2D]; exact fun z => nomatch z) b2D⟩
          · have z1 := x'.hh b o z n
            exact x4.hh b o (gr.hh b o z1) fun j q => n j (x'.own j b (ox j b q))
          · have z1 : H' b ≠ none := fun w => z (x'.dom b w)
            have z2 := gr.new b z1 (x'.new b z e)
            exact x4.new b (fun w => z1 (gr.hh.free w)) z2
        dsimp only at el
        cases ec : cond s2 with
        | no =>
          rw [ec] at el
          cases el
        | ex _ _ =>
          rw [ec] at el
          cases el
        | ok b s3 =>
          rw [ec] at el
          cases b with
          | false =>
            dsimp only at el
            intro B3 H3 x3 ok3
            dsimp only
            rw [if_neg Bool.false_ne_true]
            obtain ⟨f1, f2, f3, f4, f5⟩ := fin x3 ok3
            exact ⟨B3, wipeD s3 vs, acc, vacc, f1, f2, f4, f5, dps_same (gr.bb.trans x3.bb) _ _ da, f3, el⟩
          | true =>
            dsimp only at el
            intro B3 H3 x3 ok3
            dsimp only
            rw [if_pos rfl]
            refine ⟨B3, s3, ok3, ?_⟩
            cases ee : fe s3 with
            | no =>
              rw [ee] at el
              cases el
            | ex _ _ =>
              rw [ee] at el
              cases el
            | ok r s4 =>
              rw [ee] at el
              cases r with
              | tmp _ => cases el
              | slot _ => cases el
              | imm d =>
                dsimp only at el
                intro B4 H4 x4 ok4 y hy
                by_cases hacc : acc.length < mx
                rotate_left
                · rw [if_neg hacc] at el
                  cases el
                rw [if_pos hacc] at el
                obtain ⟨f1, f2, f3, f4, f5⟩ := fin (x3.trans x4) ok4
                have da4 := dps_same ((gr.bb.trans x3.bb).trans x4.bb) _ _ da
                refine ⟨vacc, f4, by rw [dps_len da]; exact mx_lt (Nat.le_of_lt hacc), B4, wipeD s4 vs, acc ++ [d], vacc ++ [y], ⟨f1.bb, fun b o z n => ?_, fun b z => f1.dom b (upd_none z), f1.new, f1.own⟩, f2.write zD f5 f3, upd_same, f5, dps_app da4 (.cons hy .nil), f3, el⟩
                rw [upd_ne (fun w => by rw [w, nD] at z; cases z)]
                exact f1.hh b o z n
    · have e : i = ds.length := by omega
      subst e
      rw [List.drop_length] at el
      cases el
      refine .inl ⟨j1, ?_⟩
      have ob : ∀ j a, Owns σ (backD s1 sF vs) j a → j ∉ vs ∧ Owns (wipe σ vs) sF j a := fun j a o => by
        obtain ⟨o1, xs, o2⟩ := o
        rw [backD_get] at o2
        by_cases c : j ∈ vs ∧ j < sF.length
        · rw [if_pos c] at o2
          have hj : j < s1.length := by rw [← ok1.len]; exact (List.getElem?_eq_some_iff.mp o1).1
          have eg : s1.getD j none = s1[j] := by simp [List.getD, hj]
          rw [eg] at o2
          refine absurd ⟨o1, xs, ?_⟩ ((pl j c.1).2 a)
          rcases o2 with o2 | o2
          · exact .inl (by rw [List.getElem?_eq_getElem hj]; exact o2)
          · exact .inr (by rw [List.getElem?_eq_getElem hj]; exact o2)
        · rw [if_neg c] at o2
          have hlF : j < sF.length := by
            rcases o2 with o2 | o2 <;> exact (List.getElem?_eq_some_iff.mp o2).1
          have nj : j ∉ vs := fun z => c ⟨z, hlF⟩
          refine ⟨nj, ?_, xs, o2⟩
          rw [wipe_get, if_neg (fun z => nj z.1)]
          exact o1
      have e1 : s1.length = sF.length := by
        rw [← ok1.len, ← ok'.len, wipe_length]
      refine k B' H' ⟨x'.bb, fun b o z n => x'.hh b o z fun j q => n j (owns_wipe ok1.len q), x'.dom, x'.new, fun j a o => owns_wipe ok1.len (x'.own j a (ob j a o).2)⟩ ?_ _ ⟨D, vacc, rfl, x1.dom D nD, hD, bD, da, fun j o => nO j (ob j D o).2⟩
      refine ⟨by rw [backD_len, ← e1]; exact ok1.len, fun j dv v e2 e3 => ?_, fun j l a o1 o2 => ok'.sep j l a (ob j a o1).2 (ob l a o2).2, ok'.b0, ok'.bh, ok'.fr, ok'.dom, ok'.new⟩
      rw [backD_get] at e2
      by_cases c : j ∈ vs ∧ j < sF.length
      · rw [if_pos c] at e2
        have hj : j < s1.length := by rw [e1]; exact c.2
        have eg : s1.getD j none = s1[j] := by simp [List.getD, hj]
        rw [eg] at e2
        have z := ok1.slot j dv v (by rw [List.getElem?_eq_getElem hj]; exact e2) e3
        have np := (pl j c.1).2
        match dv, z, e2 with
        | none, z, _ => exact z
        | some (.imm d), ⟨l, x, e, r⟩, _ => exact ⟨l, x, e, dp_same x'.bb _ _ r⟩
        | some (.own xs), ⟨l, a, us, e, _⟩, e2 => exact absurd ⟨by rw [e3, e], xs, .inl (by rw [List.getElem?_eq_getElem hj]; exact e2)⟩ (np a)
        | some (.lent xs), ⟨a, us, l, e, _⟩, e2 => exact absurd ⟨by rw [e3, e], xs, .inr (by rw [List.getElem?_eq_getElem hj]; exact e2)⟩ (np a)
        | some .exc, z, _ => exact z
      · rw [if_neg c] at e2
        have hlF := (List.getElem?_eq_some_iff.mp e2).1
        have nj : j ∉ vs := fun z => c ⟨z, hlF⟩
        exact ok'.slot j dv v e2 (by rw [wipe_get, if_neg (fun z => nj z.1)]; exact e3)
/-- without a test -/
def fYes : FT := fun s => .ok true s
theorem dts_nil : PTs X [] (tT p WF fYes) := ⟨fun pins s σ H Q I h => by
  obtain ⟨B, s', ok, q⟩ := h
  exact pts_nil.run pins s σ H Q I (q B H .refl ok)⟩
theorem dts_one {c : Expr} {u : FT} (h : PT X c (tT p WF u)) : PTs X [c] (tT p WF u) := pts_one h
theorem de_lc {t : TG} (hc : X.calm = true) (hN : X.N.Nodup) (hi : PI X tg iter (tI p W it)) (ok : BlkOk X.N X.env.scope scope own)
    (hg : ∀ (s : Shared) (H : Hp) (C : Addr) (cl : List (Str × Addr)) (fp : List Addr), PG (X.blk s H scope (compEnvC scope cl C X.env) fp) tg t) (tq : TqD p t is g) (ht : ∀ (s : Shared) (H : Hp) (C : Addr) (cl : List (Str × Addr)) (fp : List Addr), PTs (X.blk s H scope (compEnvC scope cl C X.env) fp) ifs (tT p WF cond))
    (he : ∀ (s : Shared) (H : Hp) (C : Addr) (cl : List (Str × Addr)) (fp : List Addr), PE (X.blk s H scope (compEnvC scope cl C X.env) fp) elt (tE p WF fe)) (hsub : ∀ i ∈ is, i ∈ own.map (·.2)) (hs : ∀ x, foldedSetIterable iter X.env x = pure x := by intro _; rfl) :
    PE X (.ListComp elt [⟨tg, iter, ifs, 0⟩] scope pos) (tE p W (fLc it (own.map (·.2)) g cond fe)) :=
  PE.imp (pe_lc hc hN hi ok hg ht he hs) fun σ H Q h => lc_of tq.run tq.own hsub h
end
end DL
end

set_option Elab.async false
set_option linter.all false
set_option maxRecDepth 100000
set_option maxHeartbeats 4000000
noncomputable section
namespace DL
open PySem PySem.Spec PyProof.Rows L2

/-! ### slots of our own lists -/
theorem setD_own {p : Pr} {B H : Hp} {σ : St} {s s' : SD} {i : Nat} {a : Addr} {vs : List V} {xs : List D} (ok : StOk p B H σ s) (hz : p.Z a = none) (h1 : H a = some (.lst vs)) (h2 : B a = none) (h3 : DpAll p.K B vs xs) (h4 : ∀ j, ¬ Owns σ s j a) (e : setD s i (.own xs) = some s') : StOk p B H (σ.set i (some (.ref a))) s' := by
  unfold setD at e
  rw [getS_eq] at e
  simp only [setS_eq] at e
  split at e
  · cases e
  · rename_i dv nl q
    cases e
    have hl : p.L i = none := by
      have hi := (List.getElem?_eq_some_iff.mp q).1
      have hσ : i < σ.length := by rw [ok.len]; exact hi
      have z := ok.slot i dv _ q (List.getElem?_eq_getElem hσ)
      match dv, nl, z with
      | none, _, z => exact z
      | some (.imm _), _, z => exact z.1
      | some (.own _), _, z => exact z.1
      | some (.lent xs), nl, _ => exact (nl xs rfl).elim
      | some .exc, _, z => exact z.1
    have oth : ∀ {j : Nat} {c : Addr}, i ≠ j → Owns (σ.set i (some (.ref a))) (s.set i (some (.own xs))) j c → Owns σ s j c := fun {j c} ne o => by
      obtain ⟨o1, ys, o2⟩ := o
      rw [List.getElem?_set_ne ne] at o1 o2
      exact ⟨o1, ys, o2⟩
    have own : ∀ {c : Addr}, Owns (σ.set i (some (.ref a))) (s.set i (some (.own xs))) i c → c = a := fun {c} o => by
      obtain ⟨o1, _⟩ := o
      rw [List.getElem?_set_self (by have := (List.getElem?_eq_some_iff.mp o1).1; simpa using this)] at o1
      have e1 : (V.ref a) = .ref c := Option.some.inj (Option.some.inj o1)
      cases e1
      rfl
    refine ⟨by rw [List.length_set, List.length_set]; exact ok.len, fun j dj vj e1 e2 => ?_, fun j k c o1 o2 => ?_, ok.b0, ok.bh, ok.fr, ok.dom, ok.new⟩
    · by_cases ej : i = j
      · subst ej
        rw [List.getElem?_set_self (by have := (List.getElem?_eq_some_iff.mp e1).1; simpa using this)] at e1
        rw [List.getElem?_set_self (by have := (List.getElem?_eq_some_iff.mp e2).1; simpa using this)] at e2
        cases e1
        cases e2
        exact ⟨hl, a, vs, rfl, hz, h1, h2, h3⟩
      · rw [List.getElem?_set_ne ej] at e1 e2
        exact ok.slot j dj vj e1 e2
    · by_cases ej : i = j
      · by_cases ek : i = k
        · exact ej.symm.trans ek
        · subst ej
          have ec := own o1
          subst ec
          exact absurd (oth ek o2) (h4 k)
      · by_cases ek : i = k
        · subst ek
          have ec := own o2
          subst ec
          exact absurd (oth ej o1) (h4 j)
        · exact ok.sep j k c (oth ej o1) (oth ek o2)
  · cases e
/-- a list of ours, or a lent one, gets another content -/
def setC (s : SD) (i : Nat) (f : List D → Option (List D)) : Option SD := match getS s i with
  | some (some (.own xs)) => (f xs).map fun ys => setS s i (some (.own ys))
  | some (some (.lent xs)) => (f xs).map fun ys => setS s i (some (.lent ys))
  | _ => none
theorem setC_ok {p : Pr} {B H : Hp} {σ : St} {s s' : SD} {i : Nat} {a : Addr} {f : List D → Option (List D)} {ws : List V} (ok : StOk p B H σ s) (ha : σ[i]? = some (some (.ref a)))
    (e : setC s i f = some s') (hw : ∀ xs ys vs, view s (.slot i) = some (.list xs) → H a = some (.lst vs) → DpAll p.K B vs xs → f xs = some ys → DpAll p.K B ws ys) :
    StOk p B (upd H a (.lst ws)) σ s' ∧ ∀ j c, Owns σ s' j c → Owns σ s j c := by
  have key : ∀ (mk : List D → DV) (xs ys : List D), (∀ zs, mk zs = .own zs ∨ mk zs = .lent zs) → s[i]? = some (some (mk xs)) → f xs = some ys → s' = s.set i (some (mk ys)) → view s (.slot i) = some (.list xs) →
      (∀ vs, SlotOk p B H i (some (.ref a)) (some (mk xs)) → H a = some (.lst vs) → DpAll p.K B ws ys → SlotOk p B (upd H a (.lst ws)) i (some (.ref a)) (some (mk ys))) → StOk p B (upd H a (.lst ws)) σ s' ∧ ∀ j c, Owns σ s' j c → Owns σ s j c := by
    intro mk xs ys hmk q ef es ev hs
    subst es
    have oi : Owns σ s i a := ⟨ha, xs, by rcases hmk xs with z | z <;> (rw [q, z]; simp)⟩
    obtain ⟨vs, xs', h1, h2, h3, h5⟩ := ok.owned oi
    have exs : xs' = xs := by
      rcases hmk xs with z | z <;> rw [q, z] at h5 <;> rcases h5 with h5 | h5 <;> cases h5 <;> rfl
    subst exs
    have dw := hw xs' ys vs ev h1 h3 ef
    have ow : ∀ j c, Owns σ (s.set i (some (mk ys))) j c → Owns σ s j c := fun j c o => by
      obtain ⟨o1, zs, o2⟩ := o
      by_cases ej : i = j
      · subst ej
        rw [ha] at o1
        cases o1
        exact oi
      · rw [List.getElem?_set_ne ej] at o2
        exact ⟨o1, zs, o2⟩
    refine ⟨⟨by rw [List.length_set]; exact ok.len, fun j dv v e1 e2 => ?_, fun j k c o1 o2 => ok.sep j k c (ow j c o1) (ow k c o2), ok.b0, fun b o z => ?_, fun b o z n => ?_, fun b z => ok.dom b (upd_none z), ok.new⟩, ow⟩
    · by_cases ej : i = j
      · subst ej
        rw [List.getElem?_set_self (by have := (List.getElem?_eq_some_iff.mp e1).1; simpa using this)] at e1
        rw [ha] at e2
        cases e1
        cases e2
        exact hs vs (ok.slot i _ _ q ha) h1 dw
      · rw [List.getElem?_set_ne ej] at e1
        have z := ok.slot j dv v e1 e2
        match dv, z with
        | none, z => exact z
        | some (.imm d), z => exact z
        | some (.own us), ⟨l, c, vs', e, hz, h, n, r⟩ =>
          have nc : c ≠ a := fun w => ej (ok.sep i j a oi ⟨by rw [e2, e, w], us, .inl e1⟩)
          exact ⟨l, c, vs', e, hz, by rw [upd_ne nc]; exact h, n, r⟩
        | some (.lent us), ⟨c, vs', l, e, h, n, r⟩ =>
          have nc : c ≠ a := fun w => ej (ok.sep i j a oi ⟨by rw [e2, e, w], us, .inr e1⟩)
          exact ⟨c, vs', l, e, by rw [upd_ne nc]; exact h, n, r⟩
        | some .exc, z => exact z
    · rw [upd_ne (fun w => by rw [w, h2] at z; cases z)]
      exact ok.bh b o z
    · have nb : b ≠ a := fun w => by
        have zz := ok.slot i _ _ q ha
        rcases hmk xs' with y | y
        · rw [y] at zz
          obtain ⟨_, c, _, ec, hz, _⟩ := zz
          have : c = a := by
            have := Option.some.inj ec
            cases this
            rfl
          rw [this, ← w, z] at hz
          cases hz
        · rw [y] at zz
          obtain ⟨c, _, hc, ec, _⟩ := zz
          have : c = a := by
            have := Option.some.inj ec
            cases this
            rfl
          rw [this, ← w] at hc
          exact n i hc
      rw [upd_ne nb]
      exact ok.fr b o z n
  unfold setC at e
  rw [getS_eq] at e
  simp only [setS_eq] at e
  split at e
  · rename_i xs q
    cases ef : f xs with
    | none =>
      rw [ef] at e
      cases e
    | some ys =>
      rw [ef] at e
      cases e
      refine key .own xs ys (fun _ => .inl rfl) q ef rfl (by unfold view; simp only [getS_eq, q]) fun vs z h d => ?_
      obtain ⟨l, c, vs', ec, hz, h', n, r⟩ := z
      cases ec
      exact ⟨l, a, ws, rfl, hz, upd_same, n, d⟩
  · rename_i xs q
    cases ef : f xs with
    | none =>
      rw [ef] at e
      cases e
    | some ys =>
      rw [ef] at e
      cases e
      refine key .lent xs ys (fun _ => .inr rfl) q ef rfl (by unfold view; simp only [getS_eq, q]) fun vs z h d => ?_
      obtain ⟨c, vs', l, ec, h', n, r⟩ := z
      cases ec
      exact ⟨a, ws, l, rfl, upd_same, n, d⟩
  · cases e
/-- a list of ours is frozen -/
def frz (i : Nat) (s : SD) : SD := match s[i]? with
  | some (some (.own xs)) => s.set i (some (.imm (.list xs)))
  | _ => s
theorem frz_ok {p : Pr} {B H : Hp} {σ : St} {s : SD} {i : Nat} (ok : StOk p B H σ s) : ∃ B', Same B B' ∧ StOk p B' H σ (frz i s) := by
  unfold frz
  split
  · rename_i xs q
    have hi := (List.getElem?_eq_some_iff.mp q).1
    have hσ : i < σ.length := by rw [ok.len]; exact hi
    obtain ⟨l, a, vs, e, hz, h1, h2, h3⟩ := ok.slot i _ _ q (List.getElem?_eq_getElem hσ)
    have ha : σ[i]? = some (some (.ref a)) := by rw [List.getElem?_eq_getElem hσ, e]
    have sb : Same B (upd B a (.lst vs)) := same_upd h2
    have ow : ∀ j c, Owns σ (s.set i (some (.imm (.list xs)))) j c → i ≠ j ∧ Owns σ s j c := fun j c o => by
      obtain ⟨o1, zs, o2⟩ := o
      by_cases ej : i = j
      · subst ej
        rw [List.getElem?_set_self hi] at o2
        rcases o2 with o2 | o2 <;> cases o2
      · rw [List.getElem?_set_ne ej] at o2
        exact ⟨ej, o1, zs, o2⟩
    have ne : ∀ j c, i ≠ j → Owns σ s j c → c ≠ a := fun j c ij o w => ij (ok.sep i j a ⟨ha, xs, .inl q⟩ (w ▸ o))
    refine ⟨upd B a (.lst vs), sb, by rw [List.length_set]; exact ok.len, fun j dv v e1 e2 => ?_, fun j k c o1 o2 => ok.sep j k c (ow j c o1).2 (ow k c o2).2, ok.b0.trans sb, fun b o z => ?_, ok.fr, ok.dom, fun b z e => ?_⟩
    · by_cases ej : i = j
      · subst ej
        rw [List.getElem?_set_self hi] at e1
        rw [ha] at e2
        cases e1
        cases e2
        exact ⟨l, _, rfl, .lst (.inl (Rd.of upd_same)) (dps_same sb _ _ h3)⟩
      · rw [List.getElem?_set_ne ej] at e1
        have z := ok.slot j dv v e1 e2
        match dv, z with
        | none, z => exact z
        | some (.imm d), ⟨l', x, e, r⟩ => exact ⟨l', x, e, dp_same sb _ _ r⟩
        | some (.own us), ⟨l', c, vs', e, hz', h, n, r⟩ => exact ⟨l', c, vs', e, hz', h, by rw [upd_ne (ne j c ej ⟨by rw [e2, e], us, .inl e1⟩)]; exact n, dps_same sb _ _ r⟩
        | some (.lent us), ⟨c, vs', l', e, h, n, r⟩ => exact ⟨c, vs', l', e, h, by rw [upd_ne (ne j c ej ⟨by rw [e2, e], us, .inr e1⟩)]; exact n, dps_same sb _ _ r⟩
        | some .exc, z => exact z
    · by_cases w : b = a
      · subst w
        rw [upd_same] at z
        cases z
        exact h1
      · rw [upd_ne w] at z
        exact ok.bh b o z
    · rw [upd_ne (fun w => z (by rw [w]; exact hz))]
      exact ok.new b z e
  · exact ⟨B, Same.refl _, ok⟩

/-! ### statements -/
def fSeq (f g : FS) : FS := fun s => match f s with
  | .nx s1 => g s1
  | r => r
def fNx : FS := fun s => .nx s
def fBk : FS := fun s => .bk s
def fCt : FS := fun s => .ct s
def fDrop (f : FE) : FS := fun s => (f s).stm fun _ s1 => .nx s1
def fSetI (i : Nat) (f : FE) : FS := fun s => (fI f s).stm fun r s1 => match r with
  | .imm d => (match setD s1 i (.imm d) with
    | some s2 => .nx s2
    | none => .no)
  | _ => .no
def fSetO (i : Nat) (f : FE) : FS := fun s => (f s).stm fun r s1 => match r with
  | .tmp xs => (match setD s1 i (.own xs) with
    | some s2 => .nx s2
    | none => .no)
  | _ => .no
def fTgt (g : D → SD → Option SD) (f : FE) : FS := fun s => (fI f s).stm fun r s1 => match r with
  | .imm d => (match g d s1 with
    | some s2 => .nx s2
    | none => .no)
  | _ => .no
def fIfS (u : FT) (f g : FS) : FS := fun s => (u s).stm fun b s1 => match b with
  | true => f s1
  | false => g s1
def fRet (f : FE) : FS := fun s => (f s).stm fun r s1 => match r with
  | .imm d => .rt (.imm d) s1
  | .tmp xs => .rt (.tmp xs) s1
  | .slot i => (match s1[i]? with
    | some (some (.own xs)) => .rt (.tmp xs) (s1.set i none)
    | _ => .no)
def fRetN : FS := fun s => .rt (.imm .none) s
def fFrz (i : Nat) (f : FS) : FS := fun s => f (frz i s)
def fNo : FS := fun _ => .no
section
variable {X : Cx} {p : Pr} {W : WX} {f g : FE} {u : FT} {fs gs : FS} {e c : Expr} {st : Stmt} {sts : List Stmt} {pos : Pos} {te : TE}
theorem dss_nil : PSs X [] (tS p W fNx) := PSs.imp pss_nil fun D σ H h => by
  obtain ⟨B, s, ok, h⟩ := h
  exact h σ B H (Same.refl _) ok
theorem dss_one (h : PS X st (tS p W fs)) : PSs X [st] (tS p W fs) := pss_one h
theorem dss_cons (h1 : PS X st (tS p W fs)) (h2 : PSs X sts (tS p W gs)) : PSs X (st :: sts) (tS p W (fSeq fs gs)) := PSs.imp (pss_cons h1 h2) fun D σ H h => by
  obtain ⟨B, s, ok, h⟩ := h
  refine ⟨B, s, ok, ?_⟩
  unfold fSeq at h
  revert h
  cases fs s with
  | nx s1 => exact fun h σ' B' H' b ok' => ⟨B', s1, ok', sat_later b h⟩
  | bk s1 => exact fun h => h
  | ct s1 => exact fun h => h
  | rt r s1 => exact fun h => h
  | ex e s1 => exact fun h => h
  | no => exact fun h => h
theorem dss_frz (i : Nat) (h : PSs X sts (tS p W fs)) : PSs X sts (tS p W (fFrz i fs)) := PSs.imp h fun D σ H h => by
  obtain ⟨B, s, ok, h⟩ := h
  obtain ⟨B', b, ok'⟩ := frz_ok (i := i) ok
  exact ⟨B', _, ok', sat_later b h⟩
theorem dss_never : PSs X sts (tS p W fNo) := PSs.imp pss_never fun D σ H h => by
  obtain ⟨B, s, ok, h⟩ := h
  exact h
theorem ds_never : PS X st (tS p W fNo) := PS.imp ps_never fun D σ H h => by
  obtain ⟨B, s, ok, h⟩ := h
  exact h
theorem ds_pass : PS X (.Pass pos) (tS p W fNx) := PS.imp ps_pass fun D σ H h => by
  obtain ⟨B, s, ok, h⟩ := h
  exact h σ B H (Same.refl _) ok
theorem ds_break : PS X (.Break pos) (tS p W fBk) := PS.imp ps_break fun D σ H h => by
  obtain ⟨B, s, ok, h⟩ := h
  exact h σ B H (Same.refl _) ok
theorem ds_continue : PS X (.Continue pos) (tS p W fCt) := PS.imp ps_continue fun D σ H h => by
  obtain ⟨B, s, ok, h⟩ := h
  exact h σ B H (Same.refl _) ok
theorem ds_doc {x j pos'} : PS X (.Expr (.Constant (.str x) j pos) pos') (tS p W fNx) := PS.imp ps_doc fun D σ H h => by
  obtain ⟨B, s, ok, h⟩ := h
  exact h σ B H (Same.refl _) ok
theorem ds_expr (he : PE X e (tE p W f)) (hs : swapsWith e none pos.line X.env = pure false := by rfl) : PS X (.Expr e pos) (tS p W (fDrop f)) := PS.imp (ps_expr he hs) fun D σ H h => by
  obtain ⟨B, s, ok, h⟩ := h
  refine ⟨B, s, ok, run_mono (run_sat h) fun r s1 B1 H1 x1 ok1 k v hv => ?_⟩
  exact k σ B1 H1 (Same.refl _) ok1
theorem imm_to {σ : St} {H : Hp} {Q : VK} (h : tE p W (fI f) σ H Q) : tE p W f σ H Q := by
  obtain ⟨B, s, ok, q⟩ := h
  refine ⟨B, s, ok, ?_⟩
  unfold fI at q
  cases ef : f s with
  | no =>
    rw [ef] at q
    exact q
  | ex e' s' =>
    rw [ef] at q
    exact q
  | ok r1 s1 =>
    rw [ef] at q
    intro B1 H1 x1 ok1 v hv
    cases r1 with
    | imm d => exact q B1 H1 x1 ok1 v hv
    | slot i => exact q.elim
    | tmp xs =>
      obtain ⟨c, vs, rfl, h0, h1, h2, h3, h4⟩ := hv
      refine q (upd B1 c (.lst vs)) H1 ⟨x1.bb.trans (same_upd h2), x1.hh, x1.dom, fun b z e => ?_, x1.own⟩ (ok1.froz (ok.dom c h0) h1 h2 h4) _ (Dp.lst (.inl (Rd.of upd_same)) (dps_same (same_upd h2) _ _ h3))
      rw [upd_ne (fun w => z (by rw [w]; exact h0))]
      exact x1.new b z e
/-- a value given to a name: the name's slot is data, or a list of our own -/
theorem setI_of {i : Nat} {D : Ends} {σ : St} {H : Hp} (h : tS p W (fSetI i f) D σ H) : tE p W f σ H fun x H1 => D.nx (σ.set i (some x)) H1 := by
  obtain ⟨B, s, ok, h⟩ := h
  refine imm_to ⟨B, s, ok, run_mono (run_sat h) fun r s1 B1 H1 x1 ok1 k v hv => ?_⟩
  cases r with
  | tmp _ => exact k.elim
  | slot _ => exact k.elim
  | imm d =>
    dsimp only at k
    cases e : setD s1 i (.imm d) with
    | none =>
      rw [e] at k
      exact k.elim
    | some s2 =>
      rw [e] at k
      exact k _ B1 H1 (Same.refl _) (setD_imm ok1 hv e)
theorem setO_of {i : Nat} {D : Ends} {σ : St} {H : Hp} (h : tS p W (fSetO i f) D σ H) : tE p W f σ H fun x H1 => D.nx (σ.set i (some x)) H1 := by
  obtain ⟨B, s, ok, h⟩ := h
  refine ⟨B, s, ok, run_mono (run_sat h) fun r s1 B1 H1 x1 ok1 k v hv => ?_⟩
  cases r with
  | imm _ => exact k.elim
  | slot _ => exact k.elim
  | tmp xs =>
    dsimp only at k
    cases e : setD s1 i (.own xs) with
    | none =>
      rw [e] at k
      exact k.elim
    | some s2 =>
      rw [e] at k
      obtain ⟨a, vs, rfl, h0, h1, h2, h3, h4⟩ := hv
      exact k _ B1 H1 (Same.refl _) (setD_own ok1 (ok.dom a h0) h1 h2 h3 h4 e)
theorem ds_setI (i : Nat) {x : Str} {pos' : Pos} (hN : X.N.Nodup) (he : PE X e (tE p W f)) (hi : X.N[i]? = some x := by rfl) (hx : Loc X.env.scope x := by first | exact Or.inl rfl | exact Or.inr rfl) (hs : swapsWith e (some (.Name x pos')) pos.line X.env = pure false := by rfl) (hf : X.fn x = true ∨ X.env.scope.names.lookup x = some .local := by first | exact .inl rfl | exact .inr rfl | assumption) :
    PS X (.Assign [.Name x pos'] e pos) (tS p W (fSetI i f)) := PS.imp (ps_set hN hi hx he hs hf) fun D σ H h => setI_of h
theorem ds_setO (i : Nat) {x : Str} {pos' : Pos} (hN : X.N.Nodup) (he : PE X e (tE p W f)) (hi : X.N[i]? = some x := by rfl) (hx : Loc X.env.scope x := by first | exact Or.inl rfl | exact Or.inr rfl) (hs : swapsWith e (some (.Name x pos')) pos.line X.env = pure false := by rfl) (hf : X.fn x = true ∨ X.env.scope.names.lookup x = some .local := by first | exact .inl rfl | exact .inr rfl | assumption) :
    PS X (.Assign [.Name x pos'] e pos) (tS p W (fSetO i f)) := PS.imp (ps_set hN hi hx he hs hf) fun D σ H h => setO_of h
/-- targets in a tuple -/
theorem ds_tgt {tg : Expr} {t : TG} {is : List Nat} {gg : D → SD → Option SD} (he : PE X e (tE p W f)) (ht : PG X tg t) (tq : TqD p t is gg) (hs : swapsWithSole [tg] e pos.line X.env = pure false := by rfl) (hw : swappedStores [tg] e X.env = pure none := by rfl)
    (h1 : (assignEach [tg] X.env).map (·.2) = [assign tg X.env] := by rfl) : PS X (.Assign [tg] e pos) (tS p W (fTgt gg f)) := PS.imp (ps_asg he ht hs hw h1) fun D σ H h => by
  obtain ⟨B, s, ok, h⟩ := h
  refine imm_to ⟨B, s, ok, run_mono (run_sat h) fun r s1 B1 H1 x1 ok1 k v hv => ?_⟩
  cases r with
  | tmp _ => exact k.elim
  | slot _ => exact k.elim
  | imm d =>
    dsimp only at k
    cases e : gg d s1 with
    | none =>
      rw [e] at k
      exact k.elim
    | some s2 =>
      rw [e] at k
      exact tq.run B1 H1 σ s1 s2 v d _ ok1 hv e fun vs _ ok2 => k _ B1 H1 (Same.refl _) ok2
theorem ds_if {a b : List Stmt} (hc : PT X c (tT p W u)) (ha : PSs X a (tS p W fs)) (hb : PSs X b (tS p W gs)) : PS X (.If c a b pos) (tS p W (fIfS u fs gs)) := PS.imp (ps_if hc ha hb) fun D σ H h => by
  obtain ⟨B, s, ok, h⟩ := h
  refine ⟨B, s, ok, run_mono (run_sat h) fun b s1 B1 H1 x1 ok1 k => ?_⟩
  cases b with
  | true =>
    rw [if_pos rfl]
    exact ⟨B1, s1, ok1, k⟩
  | false =>
    rw [if_neg Bool.false_ne_true]
    exact ⟨B1, s1, ok1, k⟩
theorem ds_ret (he : PE X e (tE p W f)) : PS X (.Return (some e) pos) (tS p W (fRet f)) := PS.imp (ps_ret he) fun D σ H h => by
  obtain ⟨B, s, ok, h⟩ := h
  refine ⟨B, s, ok, run_mono (run_sat h) fun r s1 B1 H1 x1 ok1 k v hv => ?_⟩
  cases r with
  | imm d => exact k σ B1 H1 v (Same.refl _) ok1 hv
  | tmp xs =>
    refine k σ B1 H1 v (Same.refl _) ok1 ?_
    exact RvOk.back (r := .tmp xs) ok.dom hv
  | slot i =>
    dsimp only at k
    split at k
    · rename_i xs q
      have hv : σ[i]? = some (some v) := hv
      obtain ⟨l, a, vs, e, hz, h1, h2, h3⟩ := ok1.slot i _ _ q hv
      cases e
      have hi := (List.getElem?_eq_some_iff.mp q).1
      have ow : ∀ j c, Owns σ (s1.set i none) j c → i ≠ j ∧ Owns σ s1 j c := fun j c o => by
        obtain ⟨o1, zs, o2⟩ := o
        by_cases ej : i = j
        · subst ej
          rw [List.getElem?_set_self hi] at o2
          rcases o2 with o2 | o2 <;> cases o2
        · rw [List.getElem?_set_ne ej] at o2
          exact ⟨ej, o1, zs, o2⟩
      refine k σ B1 H1 _ (Same.refl _) ⟨by rw [List.length_set]; exact ok1.len, fun j dv v' e1 e2 => ?_, fun j k' c o1 o2 => ok1.sep j k' c (ow j c o1).2 (ow k' c o2).2, ok1.b0, ok1.bh, ok1.fr, ok1.dom, ok1.new⟩ ⟨a, vs, rfl, hz, h1, h2, h3, fun j o => ?_⟩
      · by_cases ej : i = j
        · subst ej
          rw [List.getElem?_set_self hi] at e1
          cases e1
          exact l
        · rw [List.getElem?_set_ne ej] at e1
          exact ok1.slot j dv v' e1 e2
      · exact (ow j a o).1 (ok1.sep i j a ⟨hv, xs, .inl q⟩ (ow j a o).2)
    · exact k.elim
theorem ds_retN : PS X (.Return none pos) (tS p W fRetN) := PS.imp ps_retN fun D σ H h => by
  obtain ⟨B, s, ok, h⟩ := h
  exact h σ B H .non (Same.refl _) ok Dp.non

/-! ### stores to lists -/
def putAt (k : Int) (d : D) (xs : List D) : Option (List D) := (ixN xs.length k).map fun j => xs.set j d
/-- a list's own name -/
theorem slot_name {p : Pr} {B H : Hp} {σ : St} {s : SD} {i : Nat} {x : D} (ok : StOk p B H σ s) (e : view s (.slot i) = some x) : ∃ a vs xs, σ[i]? = some (some (.ref a)) ∧ H a = some (.lst vs) ∧ DpAll p.K B vs xs ∧ x = .list xs := by
  unfold view at e
  simp only [getS_eq] at e
  split at e
  · rename_i xs q
    cases e
    have hi := (List.getElem?_eq_some_iff.mp q).1
    have hσ : i < σ.length := by rw [ok.len]; exact hi
    obtain ⟨_, a, vs, e', _, h1, h2, h3⟩ := ok.slot i _ _ q (List.getElem?_eq_getElem hσ)
    exact ⟨a, vs, xs, by rw [List.getElem?_eq_getElem hσ, e'], h1, h3, rfl⟩
  · rename_i xs q
    cases e
    have hi := (List.getElem?_eq_some_iff.mp q).1
    have hσ : i < σ.length := by rw [ok.len]; exact hi
    obtain ⟨a, vs, _, e', h1, h2, h3⟩ := ok.slot i _ _ q (List.getElem?_eq_getElem hσ)
    exact ⟨a, vs, xs, by rw [List.getElem?_eq_getElem hσ, e'], h1, h3, rfl⟩
  · cases e
theorem setC_view {s s' : SD} {i : Nat} {f : List D → Option (List D)} (e : setC s i f = some s') : ∃ xs ys, view s (.slot i) = some (.list xs) ∧ f xs = some ys := by
  unfold setC at e
  rw [getS_eq] at e
  simp only [setS_eq] at e
  split at e
  · rename_i xs q
    cases ef : f xs with
    | none =>
      rw [ef] at e
      cases e
    | some ys => exact ⟨xs, ys, by unfold view; simp only [getS_eq, q], ef⟩
  · rename_i xs q
    cases ef : f xs with
    | none =>
      rw [ef] at e
      cases e
    | some ys => exact ⟨xs, ys, by unfold view; simp only [getS_eq, q], ef⟩
  · cases e
def fSub (i : Nat) (fi f : FE) : FS := fun s => (fI f s).stm fun r s1 => match r, view s1 (.slot i) with
  | .imm d, some _ => (fi s1).stm fun r2 s2 => (match r2 with
    | .imm (.int k) => (match setC s2 i (putAt k d) with
      | some s3 => .nx s3
      | none => .no)
    | _ => .no)
  | _, _ => .no
theorem ds_sub (i : Nat) {x : Str} {px ps : Pos} {ei : Expr} (he : PE X e (tE p W f)) (hi : PE X ei (tE p W g)) (hN : X.N[i]? = some x := by rfl) (hv : Vis X.env.scope x := by first | exact Or.inl rfl | exact Or.inr (Or.inl rfl) | exact Or.inr (Or.inr rfl))
    (hd : (x == ("__debug__" : Str)) = false := by decide) (hcd : (x == ("__classdict__" : Str)) = false := by decide)
    (ha : ∀ v, assign (.Subscript (.Name x px) ei ps) X.env v = (do
      let ov ← holding [v] (eval (.Name x px) X.env)
      let iv ← holding [v, ov] (eval ei X.env)
      standAt ps
      holding [v, ov, iv] (setItem ov iv v)
      release [v, ov, iv] []) := by intro _; rfl)
    (hs : swapsWithSole [.Subscript (.Name x px) ei ps] e pos.line X.env = pure false := by rfl) (hw : swappedStores [.Subscript (.Name x px) ei ps] e X.env = pure none := by rfl)
    (h1 : (assignEach [.Subscript (.Name x px) ei ps] X.env).map (·.2) = [assign (.Subscript (.Name x px) ei ps) X.env] := by rfl) : PS X (.Assign [.Subscript (.Name x px) ei ps] e pos) (tS p W (fSub i g f)) :=
  PS.imp (ps_asg he (pg_sub (pe_var hN hv hd hcd) hi set_list ha) hs hw h1) fun Dn σ H h => by
  obtain ⟨B, s, ok, h⟩ := h
  refine imm_to ⟨B, s, ok, run_mono (run_sat h) fun r s1 B1 H1 x1 ok1 k v hv => ?_⟩
  cases r with
  | tmp _ => exact k.elim
  | slot _ => exact k.elim
  | imm d =>
    cases ev : view s1 (.slot i) with
    | none =>
      rw [ev] at k
      exact k.elim
    | some l =>
      rw [ev] at k
      obtain ⟨a, _, _, hσ, _⟩ := slot_name ok1 ev
      refine ⟨_, hσ, B1, s1, ok1, run_mono (run_sat k) fun r2 s2 B2 H2 x2 ok2 k2 w hw => ?_⟩
      split at k2
      · rename_i kk
        cases es : setC s2 i (putAt kk d) with
        | none =>
          rw [es] at k2
          exact k2.elim
        | some s3 =>
          rw [es] at k2
          cases hw
          obtain ⟨xs, ys, ev2, ef⟩ := setC_view es
          obtain ⟨a2, vs, xs2, hσ2, hH, hd, ex⟩ := slot_name ok2 ev2
          rw [hσ] at hσ2
          cases hσ2
          cases ex
          unfold putAt at ef
          rw [← dps_len hd] at ef
          cases ei' : ixN vs.length kk with
          | none =>
            rw [ei'] at ef
            cases ef
          | some j =>
            refine ⟨a, vs, kk, j, rfl, rfl, hH, ei', ?_⟩
            have hd2 : Dp p.K B2 v d := dp_same x2.bb _ _ hv
            obtain ⟨ok3, _⟩ := setC_ok (ws := vs.set j v) ok2 hσ es fun xs' ys' vs' e1 e2 e3 e4 => by
              rw [ev2] at e1
              cases e1
              rw [hH] at e2
              cases e2
              unfold putAt at e4
              rw [← dps_len e3, ei'] at e4
              cases e4
              exact dps_set hd2 j e3
            exact k2 σ B2 _ (Same.refl _) ok3
      · exact k2.elim
/-- x.append(e) -/
def fApp (i : Nat) (f : FE) : FS := fun s => match view s (.slot i) with
  | some _ => (fI f s).stm fun r s1 => (match r with
    | .imm d => (match setC s1 i (fun xs => if xs.length < mx then some (xs ++ [d]) else none) with
      | some s2 => .nx s2
      | none => .no)
    | _ => .no)
  | none => .no
theorem ds_app (i : Nat) {x : Str} {px pa pc : Pos} (he : PE X e (tE p W f)) (hN : X.N[i]? = some x := by rfl) (hv : Vis X.env.scope x := by first | exact Or.inl rfl | exact Or.inr (Or.inl rfl) | exact Or.inr (Or.inr rfl))
    (hd : (x == ("__debug__" : Str)) = false := by decide) (hcd : (x == ("__classdict__" : Str)) = false := by decide)
    (ht : PE X (.Call (.Attribute (.Name x px) "append" pa) [e] [] pc) (tBM X.K "list" rAppend (tVar i) (tCons (tE p W f) tNil)))
    (hs : swapsWith (.Call (.Attribute (.Name x px) "append" pa) [e] [] pc) none pos.line X.env = pure false := by rfl) : PS X (.Expr (.Call (.Attribute (.Name x px) "append" pa) [e] [] pc) pos) (tS p W (fApp i f)) :=
  PS.imp (ps_expr ht hs) fun Dn σ H h => by
  obtain ⟨B, s, ok, h⟩ := h
  unfold fApp at h
  cases ev : view s (.slot i) with
  | none =>
    rw [ev] at h
    exact h.elim
  | some l =>
    rw [ev] at h
    obtain ⟨a, vs0, _, hσ, hH0, _⟩ := slot_name ok ev
    refine ⟨_, hσ, .inl ⟨rfl, _, .inl (.inl hH0)⟩, imm_to ⟨B, s, ok, run_mono (run_sat h) fun r s1 B1 H1 x1 ok1 k v hv => ?_⟩⟩
    cases r with
    | tmp _ => exact k.elim
    | slot _ => exact k.elim
    | imm d =>
      dsimp only at k
      cases es : setC s1 i (fun xs => if xs.length < mx then some (xs ++ [d]) else none) with
      | none =>
        rw [es] at k
        exact k.elim
      | some s3 =>
        rw [es] at k
        obtain ⟨xs, ys, ev2, ef⟩ := setC_view es
        obtain ⟨a2, vs, xs2, hσ2, hH, hdd, ex⟩ := slot_name ok1 ev2
        rw [hσ] at hσ2
        cases hσ2
        cases ex
        split at ef
        · rename_i hz
          refine ⟨a, vs, v, rfl, rfl, hH, by rw [dps_len hdd]; exact mx_lt (Nat.le_of_lt hz), ?_⟩
          obtain ⟨ok3, _⟩ := setC_ok (ws := vs ++ [v]) ok1 hσ es fun xs' ys' vs' e1 e2 e3 e4 => by
            rw [ev2] at e1
            cases e1
            rw [hH] at e2
            cases e2
            rw [if_pos hz] at e4
            cases e4
            exact dps_app e3 (.cons hv .nil)
          exact k σ B1 _ (Same.refl _) ok3
        · cases ef
/-- x op= e, whole numbers -/
def fAug (i : Nat) (h : Int → Int → Int) (f : FE) : FS := fun s => match s[i]? with
  | some (some (.imm (.int n))) => (f s).stm fun r s1 => (match r with
    | .imm (.int m) => (match setD s1 i (.imm (.int (h n m))) with
      | some s2 => .nx s2
      | none => .no)
    | _ => .no)
  | _ => .no
theorem ds_aug (i : Nat) {x : Str} {op : Operator} {h : Int → Int → Int} {pos' : Pos} (ho : PIp X op (ipI h)) (hN : X.N.Nodup) (he : PE X e (tE p W f)) (hi : X.N[i]? = some x := by rfl) (hx : Loc X.env.scope x := by first | exact Or.inl rfl | exact Or.inr rfl) (hf : X.fn x = true ∨ X.env.scope.names.lookup x = some .local := by first | exact .inl rfl | exact .inr rfl | assumption) :
    PS X (.AugAssign (.Name x pos') op e pos) (tS p W (fAug i h f)) := PS.imp (ps_aug hN hi hx he ho hf) fun Dn σ H hh => by
  obtain ⟨B, s, ok, hh⟩ := hh
  unfold fAug at hh
  split at hh
  · rename_i n q
    have hl := (List.getElem?_eq_some_iff.mp q).1
    have hσ : i < σ.length := by rw [ok.len]; exact hl
    obtain ⟨_, y, e', hy⟩ := ok.slot i _ _ q (List.getElem?_eq_getElem hσ)
    cases hy
    refine ⟨.int n, by rw [List.getElem?_eq_getElem hσ, e'], B, s, ok, run_mono (run_sat hh) fun r s1 B1 H1 x1 ok1 k v hv => ?_⟩
    split at k
    · rename_i m
      cases hv
      cases es : setD s1 i (.imm (.int (h n m))) with
      | none =>
        rw [es] at k
        exact k.elim
      | some s2 =>
        rw [es] at k
        exact ⟨n, m, rfl, rfl, k _ B1 H1 (Same.refl _) (setD_imm ok1 (Dp.int _) es)⟩
    · exact k.elim
  · exact hh.elim
/-- a, b = x, y: two names; the modes: data, or a list of our own -/
def setM (m : Bool) (s : SD) (i : Nat) : RV → Option SD
  | .imm d => if m then none else setD s i (.imm d)
  | .tmp xs => if m then setD s i (.own xs) else none
  | .slot _ => none
def fPar (i j : Nat) (m n : Bool) (f : FA) : FS := fun s => (f s).stm fun rs s1 => match rs with
  | [r1, r2] => if m && n then .no else (match setM m s1 i r1 with
    | some s2 => (match setM n s2 j r2 with
      | some s3 => .nx s3
      | none => .no)
    | none => .no)
  | _ => .no
theorem ds_par (i j : Nat) (m n : Bool) {x y : Str} {a b : Expr} {fa : FA} {px py pt : Pos} {kt k2 pt2} (hc : X.calm = true) (hN : X.N.Nodup) (ha : PA X [a, b] (tA p W fa)) (hij : i ≠ j) (hi : X.N[i]? = some x := by rfl) (hj : X.N[j]? = some y := by rfl)
    (hx : X.env.scope.names.lookup x = some .local := by rfl) (hy : X.env.scope.names.lookup y = some .local := by rfl)
    (hw : swappedStores [.Tuple [.Name x px, .Name y py] kt pt] (.Tuple [a, b] k2 pt2) X.env = pure (some [x, y]) := by rfl)
    (hs : swapsWithSole [.Tuple [.Name x px, .Name y py] kt pt] (.Tuple [a, b] k2 pt2) pos.line X.env = pure false := by rfl) :
    PS X (.Assign [.Tuple [.Name x px, .Name y py] kt pt] (.Tuple [a, b] k2 pt2) pos) (tS p W (fPar i j m n fa)) := PS.imp (ps_par hc hN hi hj hij hx hy ha hw hs) fun Dn σ H hh => by
  obtain ⟨B, s, ok, hh⟩ := hh
  refine ⟨B, s, ok, run_mono (run_sat hh) fun rs s1 B1 H1 x1 ok1 k vs hvs => ?_⟩
  split at k
  · rename_i r1 r2
    cases hvs with
    | cons h1 t1 =>
      cases t1 with
      | cons h2 t2 =>
        cases t2
        refine ⟨_, _, rfl, ?_⟩
        split at k
        · exact k.elim
        · rename_i hmn
          cases e1 : setM m s1 i r1 with
          | none =>
            rw [e1] at k
            exact k.elim
          | some s2 =>
            rw [e1] at k
            dsimp only at k
            cases e2 : setM n s2 j r2 with
            | none =>
              rw [e2] at k
              exact k.elim
            | some s3 =>
              rw [e2] at k
              unfold setM at e1 e2
              have nown : ∀ {dv : DV} {w : V} {c : Addr} {s2 : SD}, setD s1 i dv = some s2 → (∀ k, ¬ Owns σ s1 k c) → (∀ xs, dv ≠ .own xs) → (∀ xs, dv ≠ .lent xs) → ∀ k, ¬ Owns (σ.set i (some w)) s2 k c := fun {dv w c s2} e n n1 n2 k o => by
                unfold setD at e
                rw [getS_eq] at e
                simp only [setS_eq] at e
                split at e
                · cases e
                · cases e
                  obtain ⟨o1, xs, o2⟩ := o
                  by_cases ek : i = k
                  · subst ek
                    have hi : i < s1.length := by
                      rcases o2 with o2 | o2 <;> (have := (List.getElem?_eq_some_iff.mp o2).1; simpa using this)
                    rw [List.getElem?_set_self hi] at o2
                    rcases o2 with o2 | o2
                    · exact n1 xs (Option.some.inj (Option.some.inj o2))
                    · exact n2 xs (Option.some.inj (Option.some.inj o2))
                  · rw [List.getElem?_set_ne ek] at o1 o2
                    exact n k ⟨o1, xs, o2⟩
                · cases e
              cases r1 with
              | slot _ => cases e1
              | imm d1 =>
                cases m with
                | true => cases e1
                | false =>
                  have ok2 := setD_imm ok1 h1 e1
                  cases r2 with
                  | slot _ => cases e2
                  | imm d2 =>
                    cases n with
                    | true => cases e2
                    | false => exact k _ B1 H1 (Same.refl _) (setD_imm ok2 h2 e2)
                  | tmp xs =>
                    cases n with
                    | false => cases e2
                    | true =>
                      obtain ⟨c, us, rfl, g0, g1, g2, g3, g4⟩ := h2
                      exact k _ B1 H1 (Same.refl _) (setD_own ok2 (ok.dom c g0) g1 g2 g3 (nown e1 g4 (fun _ z => nomatch z) (fun _ z => nomatch z)) e2)
              | tmp xs =>
                cases m with
                | false => cases e1
                | true =>
                  obtain ⟨c, us, rfl, g0, g1, g2, g3, g4⟩ := h1
                  have ok2 := setD_own ok1 (ok.dom c g0) g1 g2 g3 g4 e1
                  cases r2 with
                  | slot _ => cases e2
                  | tmp _ =>
                    cases n with
                    | false => cases e2
                    | true => exact absurd rfl hmn
                  | imm d2 =>
                    cases n with
                    | true => cases e2
                    | false => exact k _ B1 H1 (Same.refl _) (setD_imm ok2 h2 e2)
  · exact k.elim
end
end DL
end

set_option Elab.async false
set_option linter.all false
set_option maxRecDepth 100000
set_option maxHeartbeats 4000000
noncomputable section
namespace DL
open PySem PySem.Spec PyProof.Rows L2

/-! ### try: several clauses, with and without a name -/
abbrev Cl := Value × Option Nat × (Addr → Value → Option Addr → TS)
def dropAt (i : Nat) (D : Ends) : Ends := { nx := fun σ' H' => D.nx (σ'.set i none) H', rt := D.rt, bk := fun σ' H' => D.bk (σ'.set i none) H', ct := fun σ' H' => D.ct (σ'.set i none) H' }
def wMix (K : PySem.W.Frag) (Wout : WX) (D : Ends) : List Cl → WX
  | [] => Wout
  | (c, none, ts) :: r => fun cls d σ H => ∃ b, PySem.W.exmOne K cls c = some b ∧ (b = true → ∀ a, H a = none → ts a cls d D σ H) ∧ (b = false → wMix K Wout D r cls d σ H)
  | (c, some i, ts) :: r => fun cls d σ H => ∃ b, PySem.W.exmOne K cls c = some b ∧ (b = true → ∀ a, H a = none → ts a cls d (dropAt i D) (σ.set i (some (.ref a))) H) ∧ (b = false → wMix K Wout D r cls d σ H)
inductive HdMix (X : Cx) : List ExceptHandler → List Cl → Prop
  | nil : HdMix X [] []
  | cons {x : Str} {c : Value} {ts : Addr → Value → Option Addr → TS} {b₀ : Stmt} {suite : List Stmt} {np pos' : Pos} {hds : List ExceptHandler} {l : List Cl} (hc : Names X x c)
      (hsu : ∀ (a : Addr) (oe : Obj) (cls : Value) (d : Option Addr) (pn : List (Addr × Obj)), Zc cls d oe → (∃ vs, oe.data = .fields vs) → PSs (X.suite a ((a, oe) :: pn)) (b₀ :: suite) (ts a cls d)) (r : HdMix X hds l) :
      HdMix X (.ExceptHandler (some (.Name x np)) none (b₀ :: suite) pos' :: hds) ((c, none, ts) :: l)
  | consAs {x n : Str} {i : Nat} {c : Value} {ts : Addr → Value → Option Addr → TS} {b₀ : Stmt} {suite : List Stmt} {np pos' : Pos} {hds : List ExceptHandler} {l : List Cl} (hc : Names X x c) (hi : X.N[i]? = some n) (hln : X.env.kindOf n = some .local)
      (hsu : ∀ (a : Addr) (oe : Obj) (cls : Value) (d : Option Addr) (pn : List (Addr × Obj)), Zc cls d oe → (∃ vs, oe.data = .fields vs) → PSs (X.suite a ((a, oe) :: pn)) (b₀ :: suite) (ts a cls d)) (r : HdMix X hds l) :
      HdMix X (.ExceptHandler (some (.Name x np)) (some n) (b₀ :: suite) pos' :: hds) ((c, some i, ts) :: l)
section
variable {X : Cx} {body : List Stmt} {h₀ : ExceptHandler} {hds : List ExceptHandler} {l : List Cl} {pos : Pos} {tb : WX → TS} {Wout : WX}
theorem ps_try_mix (hs : X.stack = X.env :: X.outer) (hf : X.env.frame = some X.env.locals) (hN : X.N.Nodup) (tk : Takes X Wout)
    (hb : ∀ (W : WX) (pn : List (Addr × Obj)) (xe : Value → Shared → Prop), Takes (X.tr pn xe) W → PassesOwn (model X.prog X.w) X.A X.env xe → PSs (X.tr pn xe) body (tb W))
    (hh : HdMix X (h₀ :: hds) l) : PS X (.Try body (h₀ :: hds) [] [] pos) (fun D σ H => tb (wMix X.K Wout D l) D σ H) := by
  refine ⟨fun pins s σ H D I h => ?_⟩
  have ok := I.ok
  have hfr : X.A.frames = some (X.env :: X.outer) := by rw [ok.frames, hs]
  refine wpAny_Try_except ?_
  refine wpAny_mono ((hb (wMix X.K Wout D l) (X.pn ++ pins) (fun e s₁ => wpAny (model X.prog X.w) X.A (noteFrame e X.env) (fun _ s₂ => wpAny (model X.prog X.w) X.A (setFlight e none) (fun _ s₃ =>
    wpAny (model X.prog X.w) X.A (handleBy e X.env (h₀ :: hds)) (SP X pins D) X.xe s₃) X.xe s₂) X.xe s₁) (fun u s' xx => ?_) PassesOwn.looking).run [] s σ H D (I.toTry _) h) (fun f s1 hsp => ?_) (fun e s1 he => he)
  · -- the catch
    obtain ⟨a, B, sI, pins', σ', H', cls, d, rfl, J', nb, up, sky, na, os, ag, w⟩ := xx
    have J : L2.Inv X pins σ' H' sI := J'.ofTry ok
    have sky' : Sky B (X.env :: X.outer) a (Zc cls d) X.env.locals s'.heap := by rw [← hs]; exact sky
    show wpAny (model X.prog X.w) X.A (noteFrame (.ref a) X.env) _ _ _
    refine Sky.land Zc.steady hfr hf sky' fun h3 fl3 up3 => ?_
    have J3 : L2.Inv X pins σ' H' { s' with heap := h3 } := J.landed nb fl3.1 (up.trans up3) os ag
    obtain ⟨oe3, vs3, he3, hz3, hd3⟩ := fl3.there
    have notFr : ∀ {h : Heap} {o : Obj} {vs : Array Value}, h.FunFrames B (X.env :: X.outer) → h.get? a = some o → o.data = .fields vs → a ∉ frs (X.env :: X.outer) := fun {h o vs} ff e dd hm => by
      obtain ⟨_, o', e', hnf⟩ := ff.mem hm
      rw [e] at e'; cases e'
      exact hnf _ dd
    have nfr := notFr fl3.2.2.1 he3 hd3
    have nL : a ≠ X.env.locals := fun z => nfr (List.mem_filterMap.mpr ⟨X.env, List.mem_cons_self, by rw [hf, z]⟩)
    have nF : a ∉ X.fs := fun hm => by
      obtain ⟨e, he, q⟩ := List.mem_filterMap.mp hm
      exact nfr (List.mem_filterMap.mpr ⟨e, List.mem_cons_of_mem _ he, q⟩)
    have S3 := J3.suite he3 hd3 na nL nF
    have test : ∀ {x : Str} {c : Value} {np : Pos}, Names X x c → ∀ {Q : Value → Shared → Prop} {E : Value → Shared → Prop}, Q c { s' with heap := h3 } → wpAny (model X.prog X.w) (X.A.mark (some (.ref a))) (eval (.Name x np) X.env) Q E { s' with heap := h3 } := fun {x c np} hc {Q E} q => by
      obtain ⟨hg, hdbg, hm | ⟨hm, hv, hnn⟩⟩ := hc
      · exact ld_glob (X := X.suite a ((a, oe3) :: (X.pn ++ pins))) S3 hg hm q hdbg
      · exact ld_blt (X := X.suite a ((a, oe3) :: (X.pn ++ pins))) S3 hg hm hv q hnn hdbg
    have LT : PySem.W.Looks (model X.prog X.w) h3 (typeOf (.ref a)) cls := fun A Q E s k q => wpAny_typeOf_ref (k _ _ he3) (by rw [hz3.1]; exact q)
    have go : ∀ {hds' : List ExceptHandler} {l' : List Cl}, HdMix X hds' l' → wMix X.K Wout D l' cls d σ' H' →
        wpAny (model X.prog X.w) X.A (handleBy (.ref a) X.env hds') (SP X pins D) X.xe { s' with heap := h3 } := by
      intro hds' l' hk
      induction hk with
      | nil =>
        intro w
        refine wpAny_handleBy_nil ?_
        obtain ⟨k1, k2, k3, oe, vs, T, oT, ts', he, hz, hd, h1, hr⟩ := id fl3
        unfold PySem.passOn
        refine wpAny_bind (wpAny_field he hd h1 ?_)
        rw [if_neg (show ¬ ((Value.ref T == Value.none) = true) from by simp)]
        have fin : wpAny (model X.prog X.w) X.A (setFlight (.ref a) X.env.frame) (fun _ s4 => wpAny (model X.prog X.w) X.A (throw (.ref a) : Sem Flow) (SP X pins D) X.xe s4) X.xe { s' with heap := h3 } := by
          rw [hf]
          refine HandSPX.setFlight_upZ fl3 fun h4 hh4 up4 => wpAny_throw (tk _ _ ?_)
          exact ⟨a, B, sI, pins, σ', H', cls, d, rfl, J, nb, (up.trans up3).trans up4, .inr (.inr (by rw [hs]; exact hh4)), na, os, ag, w⟩
        first
          | exact wpAny_bind (wpAny_pure (wpAny_bind fin))
          | exact wpAny_bind fin
      | @cons x c ts b₀ suite np pos' hds2 l2 hc hsu r ih =>
        intro w
        obtain ⟨b, hb1, hyes, hno⟩ := w
        refine wpAny_handleBy_cons (codeAny_handlers_test ?_) (by intro q; cases q)
        have LM := PySem.W.exm_one (M := model X.prog X.w) (J3.kIn) LT hb1
        refine test hc (LM.here ?_)
        cases b with
        | true =>
          refine codeAny_handlers_suite ?_
          refine HandSPX.lands_againZ fl3 fun h4 fl4 up4 => ?_
          have J4 : L2.Inv X pins σ' H' { s' with heap := h4 } := J.landed nb fl4.1 ((up.trans up3).trans up4) os ag
          obtain ⟨oe4, vs4, he4, hz4, hd4⟩ := fl4.there
          have S4 := J4.suite he4 hd4 na nL nF
          refine wpAny_mono ((hsu a oe4 cls d (X.pn ++ pins) hz4 ⟨_, hd4⟩).run [] _ _ H' _ S4 (hyes rfl a na)) (fun f s6 hsp => ?_) (fun _ _ z => False.elim z)
          cases f with
          | next =>
            obtain ⟨σ6, H6, S6, q6⟩ := hsp
            exact ⟨_, _, S6.unsuite ok, q6⟩
          | brk =>
            obtain ⟨σ6, H6, S6, q6⟩ := hsp
            exact ⟨_, _, S6.unsuite ok, q6⟩
          | cont =>
            obtain ⟨σ6, H6, S6, q6⟩ := hsp
            exact ⟨_, _, S6.unsuite ok, q6⟩
          | ret u =>
            obtain ⟨v6, σ6, H6, S6, r6, q6⟩ := hsp
            exact ⟨_, _, _, S6.unsuite ok, r6, q6⟩
        | false =>
          show wpAny _ X.A (handleBy (.ref a) X.env hds2) _ _ _
          exact ih (hno rfl)
      | @consAs x n i c ts b₀ suite np pos' hds2 l2 hc hi hln hsu r ih =>
        intro w
        obtain ⟨b, hb1, hyes, hno⟩ := w
        have hloc : Loc X.env.scope n := .inl hln
        refine wpAny_handleBy_cons (codeAny_handlers_test ?_) (by intro q; cases q)
        have LM := PySem.W.exm_one (M := model X.prog X.w) (J3.kIn) LT hb1
        refine test hc (LM.here ?_)
        cases b with
        | true =>
          refine codeAny_handlers_suite_as ?_
          refine HandSPX.lands_againZ fl3 fun h4 fl4 up4 => ?_
          have J4 : L2.Inv X pins σ' H' { s' with heap := h4 } := J.landed nb fl4.1 ((up.trans up3).trans up4) os ag
          obtain ⟨oe4, vs4, he4, hz4, hd4⟩ := fl4.there
          have S4 := J4.suite he4 hd4 na nL nF
          refine store_ok (X := X.suite a ((a, oe4) :: (X.pn ++ pins))) (v := .ref a) S4 hN hi hloc rfl (fun s5 S5 => ?_) (.inr hln)
          refine wpAny_mono ((hsu a oe4 cls d (X.pn ++ pins) hz4 ⟨_, hd4⟩).run [] s5 _ H' _ S5 (hyes rfl a na)) (fun f s6 hsp => ?_) (fun _ _ z => False.elim z)
          have end_ : ∀ {σ6 : St} {H6 : Hp} {Q : Shared → Prop}, L2.Inv (X.suite a ((a, oe4) :: (X.pn ++ pins))) [] σ6 H6 s6 → (∀ s7, L2.Inv X pins (σ6.set i none) H6 s7 → Q s7) →
              wpAny (model X.prog X.w) X.A (do bindName X.env n .none; unbindBehindTheSuite X.env n pos') (fun _ s7 => Q s7) X.xe s6 := fun {σ6 H6 Q} S6 hq => gone_ok (S6.unsuite ok) hN hi hln hq
          cases f with
          | next =>
            obtain ⟨σ6, H6, S6, q6⟩ := hsp
            exact end_ S6 fun s7 J7 => ⟨_, _, J7, q6⟩
          | brk =>
            obtain ⟨σ6, H6, S6, q6⟩ := hsp
            exact end_ S6 fun s7 J7 => ⟨_, _, J7, q6⟩
          | cont =>
            obtain ⟨σ6, H6, S6, q6⟩ := hsp
            exact end_ S6 fun s7 J7 => ⟨_, _, J7, q6⟩
          | ret u =>
            obtain ⟨v6, σ6, H6, S6, r6, q6⟩ := hsp
            exact end_ S6 fun s7 J7 => ⟨_, _, _, J7, r6, q6⟩
        | false =>
          show wpAny _ X.A (handleBy (.ref a) X.env hds2) _ _ _
          exact ih (hno rfl)
    exact go hh w
  · cases f with
    | next =>
      obtain ⟨σ', H', J', q⟩ := hsp
      exact wpAny_execs_nil ⟨σ', H', J'.ofTry ok, q⟩
    | brk =>
      obtain ⟨σ', H', J', q⟩ := hsp
      exact ⟨σ', H', J'.ofTry ok, q⟩
    | cont =>
      obtain ⟨σ', H', J', q⟩ := hsp
      exact ⟨σ', H', J'.ofTry ok, q⟩
    | ret u =>
      obtain ⟨v, σ', H', J', r, q⟩ := hsp
      exact ⟨v, σ', H', J'.ofTry ok, r, q⟩
end

/-! ### X(), X a class of errors without __init__ -/
theorem pmk_own0 {X : Cx} {C : Addr} {bmB : List Value} {B newId initId : String} {x : Str} {p pos : Pos} (F : ExcBaseFacts B newId initId bmB) (q : PySem.W.excIn X.K C bmB newId = true) (gC : X.mg x = some (.ref C)) (kC : PySem.W.keepIn X.K (.ref C) = true) (r : Raises X (.ref C)) (hg : Gl X x)
    (hdb : (x == ("__debug__" : Str)) = false := by decide) : PMk X (.Call (.Name x p) [] [] pos) (fun _ H Q => Q (.ref C) none H) := by
  intro pins s σ H Q I h
  refine wpAny_Call_Name_kw (ld_glob I hg gC ?_ hdb)
  refine PySem.W.callWith_K0 I.kIn kC ?_
  show wpAny _ _ (call (.ref C) []) _ _ _
  obtain ⟨bm, N, nm, qn, bs, hdct, sn, sub, ab, col, dd, k0, k1, k2, k3, k5, mN, hC, hN, hni, T⟩ := exc_obj I.kIn q
  refine wpAny_call_exc_subT F T hC hN hni (fun h' e hm => ?_) (by show 0 ≤ sizeLine; exact Nat.zero_le _)
  exact mk_of I hm r h (I.hok.gone hm.new)
end DL
end

set_option Elab.async false
set_option linter.all false
set_option maxRecDepth 100000
set_option maxHeartbeats 4000000
noncomputable section
namespace DL
open PySem PySem.Spec PyProof.Rows L2

/-! ### what a def promises, by data -/
def lentL (vs : List V) (as : List AV) : Nat → Option Addr := fun i => match as[i]?, vs[i]? with
  | some (.lent _), some (.ref a) => some a
  | _, _ => none
structure ArgsOk (K : PySem.W.Frag) (B H : Hp) (vs : List V) (as : List AV) : Prop where
  len : vs.length = as.length
  imm : ∀ (i : Nat) (d : D), as[i]? = some (.imm d) → ∃ v, vs[i]? = some v ∧ Dp K B v d
  lent : ∀ (i : Nat) (xs : List D), as[i]? = some (.lent xs) → ∃ a us, vs[i]? = some (.ref a) ∧ H a = some (.lst us) ∧ B a = none ∧ DpAll K B us xs
  sep : ∀ (i j : Nat) (a : Addr), lentL vs as i = some a → lentL vs as j = some a → i = j
structure CallPost (K : PySem.W.Frag) (L : Nat → Option Addr) (B H B' H' : Hp) (as' : List AV) : Prop where
  bb : Same B B'
  bh : Same B' H'
  fr : ∀ b o, H b = some o → (∀ i, L i ≠ some b) → H' b = some o
  dom : ∀ b, H' b = none → H b = none
  new : ∀ b, H b ≠ none → B b = none → B' b = none
  lent : ∀ (i : Nat) (a : Addr) (xs : List D), L i = some a → as'[i]? = some (.lent xs) → ∃ us, H' a = some (.lst us) ∧ B' a = none ∧ DpAll K B' us xs
def RetOk (K : PySem.W.Frag) (Z B' H' : Hp) (v : V) : RV → Prop
  | .imm d => Dp K B' v d
  | .tmp xs => ∃ a us, v = .ref a ∧ Z a = none ∧ H' a = some (.lst us) ∧ B' a = none ∧ DpAll K B' us xs
  | .slot _ => False
def spD (K : PySem.W.Frag) (C : Nat → Option Addr) (fld : Nat → Str) (F : List AV → RF) : Sp := fun vs H Q E => ∃ B as, Same B H ∧ ArgsOk K B H vs as ∧ match F as with
  | .ret r as' => ∀ B' H' v, CallPost K (lentL vs as) B H B' H' as' → RetOk K H B' H' v r → Q v H'
  | .exc e as' => ∀ B' H' cls d, CallPost K (lentL vs as) B H B' H' as' → ExAt K C fld H B' H' e cls d → E cls d H'
  | .no => False

/-! ### a def's function from its body's -/
def av1 : AV → Option DV
  | .imm d => some (.imm d)
  | .lent xs => some (.lent xs)
def s0 (as : List AV) (n : Nat) : SD := as.map av1 ++ List.replicate (n - as.length) none
def outA : List AV → SD → Option (List AV)
  | [], _ => some []
  | .imm d :: as, _ :: s => (outA as s).map (.imm d :: ·)
  | .lent _ :: as, some (.lent xs) :: s => (outA as s).map (.lent xs :: ·)
  | _, _ => none
theorem outA_get : ∀ {as as' : List AV} {s : SD} {i : Nat} {xs : List D}, outA as s = some as' → as'[i]? = some (.lent xs) → s[i]? = some (some (.lent xs))
  | [], _, _, i, xs, h, e => by
    cases h
    simp at e
  | .imm d :: as, as', [], i, xs, h, e => by cases h
  | .lent _ :: as, as', [], i, xs, h, e => by cases h
  | .imm d :: as, as', x :: s, i, xs, h, e => by
    unfold outA at h
    cases q : outA as s with
    | none =>
      rw [q] at h
      cases h
    | some bs =>
      rw [q] at h
      cases h
      cases i with
      | zero => cases e
      | succ i => exact outA_get (i := i) q e
  | .lent ys :: as, as', x :: s, i, xs, h, e => by
    match x, h with
    | none, h => cases h
    | some (.imm _), h => cases h
    | some (.own _), h => cases h
    | some .exc, h => cases h
    | some (.lent zs), h =>
      unfold outA at h
      cases q : outA as s with
      | none =>
        rw [q] at h
        cases h
      | some bs =>
        rw [q] at h
        cases h
        cases i with
        | zero =>
          cases e
          rfl
        | succ i => exact outA_get (i := i) q e
def mkF (m n : Nat) (body : FS) : List AV → RF := fun as => if as.length = m then (match body (s0 as n) with
  | .nx s => (match outA as s with
    | some as' => .ret (.imm .none) as'
    | none => .no)
  | .rt (.imm d) s => (match outA as s with
    | some as' => .ret (.imm d) as'
    | none => .no)
  | .rt (.tmp xs) s => (match outA as s with
    | some as' => .ret (.tmp xs) as'
    | none => .no)
  | .ex e s => (match outA as s with
    | some as' => .exc e as'
    | none => .no)
  | _ => .no) else .no
theorem s0_get {as : List AV} {n i : Nat} {dv : Option DV} (h : (s0 as n)[i]? = some dv) : (∃ a, as[i]? = some a ∧ dv = av1 a) ∨ (as[i]? = none ∧ dv = none) := by
  unfold s0 at h
  by_cases hi : i < as.length
  · rw [List.getElem?_append_left (by simpa using hi), List.getElem?_map, List.getElem?_eq_getElem hi] at h
    exact .inl ⟨as[i], List.getElem?_eq_getElem hi, (Option.some.inj h).symm⟩
  · rw [List.getElem?_append_right (by simpa using hi), List.getElem?_replicate] at h
    split at h
    · exact .inr ⟨List.getElem?_eq_none (by omega), (Option.some.inj h).symm⟩
    · cases h
theorem start_get {N : List Str} {vs : List V} {i : Nat} {v : Option V} (h : (L2.start N vs)[i]? = some v) : v = vs[i]? ∨ (vs[i]? = none ∧ v = none) := by
  unfold L2.start at h
  by_cases hi : i < vs.length
  · rw [List.getElem?_append_left (by simpa using hi), List.getElem?_map, List.getElem?_eq_getElem hi] at h
    rw [List.getElem?_eq_getElem hi]
    exact .inl (Option.some.inj h).symm
  · rw [List.getElem?_append_right (by simpa using hi), List.getElem?_replicate] at h
    split at h
    · exact .inr ⟨List.getElem?_eq_none (by omega), (Option.some.inj h).symm⟩
    · cases h
abbrev pr (K : PySem.W.Frag) (Z B0 : Hp) (L : Nat → Option Addr) (C : Nat → Option Addr) (fld : Nat → Str) (xa : Option Addr) : Pr := ⟨K, Z, B0, L, C, fld, xa⟩
theorem start_ok {K : PySem.W.Frag} {C : Nat → Option Addr} {fld : Nat → Str} {N : List Str} {vs : List V} {as : List AV} {B H : Hp} (bh : Same B H) (ao : ArgsOk K B H vs as) : StOk (pr K H B (lentL vs as) C fld none) B H (L2.start N vs) (s0 as N.length) := by
  have ow : ∀ {i : Nat} {a : Addr}, Owns (L2.start N vs) (s0 as N.length) i a → lentL vs as i = some a := fun {i a} o => by
    obtain ⟨o1, xs, o2⟩ := o
    rcases o2 with o2 | o2
    · rcases s0_get o2 with ⟨x, e1, e2⟩ | ⟨_, e2⟩
      · cases x <;> cases e2
      · cases e2
    · rcases s0_get o2 with ⟨x, e1, e2⟩ | ⟨_, e2⟩
      · cases x with
        | imm d => cases e2
        | lent ys =>
          rcases start_get o1 with z | ⟨_, z⟩
          · unfold lentL
            rw [e1, ← z]
          · cases z
      · cases e2
  refine ⟨?_, fun i dv v e1 e2 => ?_, fun i j a o1 o2 => ao.sep i j a (ow o1) (ow o2), Same.refl _, bh, fun _ _ h _ => h, fun _ h => h, fun _ _ h => h⟩
  · unfold L2.start s0
    rw [List.length_append, List.length_append, List.length_map, List.length_map, List.length_replicate, List.length_replicate, ao.len]
  · rcases s0_get e1 with ⟨x, ex, ed⟩ | ⟨ex, ed⟩
    · subst ed
      cases x with
      | imm d =>
        obtain ⟨w, hw, hd⟩ := ao.imm i d ex
        refine ⟨by show lentL vs as i = none; unfold lentL; rw [ex], w, ?_, hd⟩
        rcases start_get e2 with z | ⟨z, _⟩
        · rw [z, hw]
        · rw [hw] at z
          cases z
      | lent xs =>
        obtain ⟨a, us, hw, h1, h2, h3⟩ := ao.lent i xs ex
        refine ⟨a, us, by show lentL vs as i = some a; unfold lentL; rw [ex, hw], ?_, h1, h2, h3⟩
        rcases start_get e2 with z | ⟨z, _⟩
        · rw [z, hw]
        · rw [hw] at z
          cases z
    · subst ed
      show lentL vs as i = none
      unfold lentL
      rw [ex]
theorem post_of {p : Pr} {B' H' : Hp} {σ' : St} {s' : SD} {as as' : List AV} (ok : StOk p B' H' σ' s') (e : outA as s' = some as') : CallPost p.K p.L p.B0 p.Z B' H' as' :=
  ⟨ok.b0, ok.bh, ok.fr, ok.dom, ok.new, fun i a xs hl ha => by
    have q := outA_get e ha
    have hi := (List.getElem?_eq_some_iff.mp q).1
    obtain ⟨b, us, h1, _, h2, h3, h4⟩ := ok.slot i _ _ q (List.getElem?_eq_getElem (by rw [ok.len]; exact hi))
    rw [hl] at h1
    cases h1
    exact ⟨us, h2, h3, h4⟩⟩
section
variable {P : Program} {w : World} {K : PySem.W.Frag} {mg : Str → Option Value} {base : Heap}
/-- THE RULE for a def: its body read as a function of slots -/
theorem fn_okD {x qual : Str} {st : Stmt} {f : Addr} {fd : FuncData} {N ps : List Str} {k : Nat} {C : Nat → Option Addr} {fld : Nat → Str} {body : FS} (F : Fun K x qual st f fd) (S : FnScope N ps (defScope st))
    (hb : ∀ (cdv : Value) (A : Around) (outer : List Env) (s : Shared) (H : Hp) (E : XK) (Z B0 : Hp) (L : Nat → Option Addr), Room k (A.deeper (envOfC qual (defScope st) s.heap.objs.size f cdv)) →
      PSs (cxOf (L2.CX P w) P w K mg base N qual (defScope st) f cdv A outer s H E) (defBody st) (tS (pr K Z B0 L C fld none) (fun cls d _ H => E cls d H) body)) :
    FnOk P w K mg base (L2.CX P w) (k + 1) f fd ps (spD K C fld (mkF ps.length N.length body)) := by
  refine F.okX S (fun vs H Q E h => ?_) (fun cdv A outer s H vs Q E hr h => ?_)
  · obtain ⟨B, as, bh, ao, h⟩ := h
    unfold mkF at h
    split at h
    · rename_i r as' hF
      split at hF
      · rename_i hl
        rw [ao.len, hl]
      · cases hF
    · rename_i r as' hF
      split at hF
      · rename_i hl
        rw [ao.len, hl]
      · cases hF
    · exact h.elim
  · obtain ⟨B, as, bh, ao, h⟩ := h
    refine ⟨_, hb cdv A outer s H E H B (lentL vs as) hr, B, s0 as N.length, start_ok bh ao, ?_⟩
    unfold mkF at h
    by_cases hl : as.length = ps.length
    rotate_left
    · rw [if_neg hl] at h
      exact h.elim
    rw [if_pos hl] at h
    cases eb : body (s0 as N.length) with
    | no =>
      rw [eb] at h
      exact h.elim
    | bk s1 =>
      rw [eb] at h
      exact h.elim
    | ct s1 =>
      rw [eb] at h
      exact h.elim
    | nx s1 =>
      rw [eb] at h
      dsimp only at h
      cases eo : outA as s1 with
      | none =>
        rw [eo] at h
        exact h.elim
      | some as' =>
        rw [eo] at h
        exact fun σ' B' H' _ ok' => h B' H' .non (post_of ok' eo) Dp.non
    | ex e s1 =>
      rw [eb] at h
      dsimp only at h
      cases eo : outA as s1 with
      | none =>
        rw [eo] at h
        exact h.elim
      | some as' =>
        rw [eo] at h
        exact fun σ' B' H' cls d _ ok' x => h B' H' cls d (post_of ok' eo) x
    | rt r s1 =>
      rw [eb] at h
      cases r with
      | slot i => exact h.elim
      | imm d =>
        dsimp only at h
        cases eo : outA as s1 with
        | none =>
          rw [eo] at h
          exact h.elim
        | some as' =>
          rw [eo] at h
          exact fun σ' B' H' v _ ok' x => h B' H' v (post_of ok' eo) x
      | tmp xs =>
        dsimp only at h
        cases eo : outA as s1 with
        | none =>
          rw [eo] at h
          exact h.elim
        | some as' =>
          rw [eo] at h
          exact fun σ' B' H' v _ ok' x => h B' H' v (post_of ok' eo) (by
            obtain ⟨a, us, h1, h2, h3, h4, h5, _⟩ := x
            exact ⟨a, us, h1, h2, h3, h4, h5⟩)
end

/-! ### a call of a def -/
def toAVs (s : SD) : List RV → Option (List AV)
  | [] => some []
  | .imm d :: r => (toAVs s r).map (.imm d :: ·)
  | .slot i :: r => match view s (.slot i) with
    | some (.list xs) => (toAVs s r).map (.lent xs :: ·)
    | _ => none
  | .tmp _ :: _ => none
def slotsOf : List RV → List Nat
  | [] => []
  | .slot i :: r => i :: slotsOf r
  | _ :: r => slotsOf r
def lentOf : List AV → Option (List D)
  | [] => none
  | .lent xs :: _ => some xs
  | _ :: r => lentOf r
def shape : List AV → List AV → Bool
  | .imm _ :: r, .imm _ :: r' => shape r r'
  | .lent _ :: r, .lent _ :: r' => shape r r'
  | [], [] => true
  | _, _ => false
theorem shape_get : ∀ {as bs : List AV} {i : Nat} {xs : List D}, shape as bs = true → bs[i]? = some (.lent xs) → ∃ ys, as[i]? = some (.lent ys)
  | [], [], i, xs, _, e => by simp at e
  | [], _ :: _, _, _, h, _ => by cases h
  | .imm _ :: _, [], _, _, h, _ => by cases h
  | .lent _ :: _, [], _, _, h, _ => by cases h
  | .imm _ :: _, .lent _ :: _, _, _, h, _ => by cases h
  | .lent _ :: _, .imm _ :: _, _, _, h, _ => by cases h
  | .imm _ :: r, .imm _ :: r', i, xs, h, e => by
    cases i with
    | zero => cases e
    | succ i => exact shape_get (as := r) (bs := r') (i := i) h e
  | .lent ys :: r, .lent _ :: r', i, xs, h, e => by
    cases i with
    | zero => exact ⟨ys, rfl⟩
    | succ i => exact shape_get (as := r) (bs := r') (i := i) h e
def fCallF (F : List AV → RF) (fa : FA) : FE := fun s => (fa s).bind fun rs s1 => match toAVs s1 rs with
  | none => .no
  | some as => match slotsOf rs with
    | [] => (match F as with
      | .ret (.imm d) _ => .ok (.imm d) s1
      | .ret (.tmp xs) _ => .ok (.tmp xs) s1
      | .exc e _ => .ex e s1
      | _ => .no)
    | [i] => (match F as with
      | .ret r as' => if shape as as' then (match lentOf as' with
        | some xs => (match setC s1 i (fun _ => some xs) with
          | some s2 => (match r with
            | .imm d => .ok (.imm d) s2
            | .tmp ys => .ok (.tmp ys) s2
            | .slot _ => .no)
          | none => .no)
        | none => .no) else .no
      | .exc e as' => if shape as as' then (match lentOf as' with
        | some xs => (match setC s1 i (fun _ => some xs) with
          | some s2 => .ex e s2
          | none => .no)
        | none => .no) else .no
      | .no => .no)
    | _ => .no
theorem toAVs_len {s : SD} : ∀ {rs : List RV} {as : List AV}, toAVs s rs = some as → as.length = rs.length
  | [], _, e => by
    cases e
    rfl
  | .imm d :: r, as, e => by
    unfold toAVs at e
    cases q : toAVs s r with
    | none =>
      rw [q] at e
      cases e
    | some bs =>
      rw [q] at e
      cases e
      exact congrArg (· + 1) (toAVs_len q)
  | .slot i :: r, as, e => by
    unfold toAVs at e
    split at e
    · cases q : toAVs s r with
      | none =>
        rw [q] at e
        cases e
      | some bs =>
        rw [q] at e
        cases e
        exact congrArg (· + 1) (toAVs_len q)
    · cases e
  | .tmp _ :: _, _, e => by cases e
theorem rvs_len {p : Pr} {H0 : Hp} {σ : St} {s : SD} {B H : Hp} : ∀ {vs : List V} {rs : List RV}, RvsOk p H0 σ s B H vs rs → vs.length = rs.length
  | _, _, .nil => rfl
  | _, _, .cons _ t => congrArg (· + 1) (rvs_len t)
theorem toAVs_imm {p : Pr} {H0 : Hp} {σ : St} {s : SD} {B H : Hp} : ∀ {vs : List V} {rs : List RV} {as : List AV} {i : Nat} {d : D}, RvsOk p H0 σ s B H vs rs → toAVs s rs = some as → as[i]? = some (.imm d) → ∃ v, vs[i]? = some v ∧ Dp p.K B v d
  | _, _, _, i, d, .nil, e, h => by
    cases e
    simp at h
  | _, _, as, i, d, .cons (v := v) (r := r) (rs := rs) hv t, e, h => by
    cases r with
    | tmp _ => cases e
    | imm d' =>
      unfold toAVs at e
      cases q : toAVs s rs with
      | none =>
        rw [q] at e
        cases e
      | some bs =>
        rw [q] at e
        cases e
        cases i with
        | zero =>
          cases h
          exact ⟨v, rfl, hv⟩
        | succ i => exact toAVs_imm (i := i) t q h
    | slot j =>
      unfold toAVs at e
      split at e
      · cases q : toAVs s rs with
        | none =>
          rw [q] at e
          cases e
        | some bs =>
          rw [q] at e
          cases e
          cases i with
          | zero => cases h
          | succ i => exact toAVs_imm (i := i) t q h
      · cases e
theorem toAVs_lent {p : Pr} {H0 : Hp} {σ : St} {s : SD} {B H : Hp} : ∀ {vs : List V} {rs : List RV} {as : List AV} {i : Nat} {xs : List D}, RvsOk p H0 σ s B H vs rs → toAVs s rs = some as → as[i]? = some (.lent xs) →
    ∃ j v, rs[i]? = some (.slot j) ∧ j ∈ slotsOf rs ∧ view s (.slot j) = some (.list xs) ∧ vs[i]? = some v ∧ σ[j]? = some (some v)
  | _, _, _, i, d, .nil, e, h => by
    cases e
    simp at h
  | _, _, as, i, d, .cons (v := v) (r := r) (rs := rs) hv t, e, h => by
    cases r with
    | tmp _ => cases e
    | imm d' =>
      unfold toAVs at e
      cases q : toAVs s rs with
      | none =>
        rw [q] at e
        cases e
      | some bs =>
        rw [q] at e
        cases e
        cases i with
        | zero => cases h
        | succ i => exact toAVs_lent (i := i) t q h
    | slot j =>
      unfold toAVs at e
      split at e
      · rename_i xs ev
        cases q : toAVs s rs with
        | none =>
          rw [q] at e
          cases e
        | some bs =>
          rw [q] at e
          cases e
          cases i with
          | zero =>
            cases h
            exact ⟨j, v, rfl, List.mem_cons_self, ev, rfl, hv⟩
          | succ i =>
            obtain ⟨k, w, h1, h2, h3⟩ := toAVs_lent (i := i) t q h
            exact ⟨k, w, h1, List.mem_cons_of_mem _ h2, h3⟩
      · cases e
theorem slot_pos : ∀ {rs : List RV} {i j k : Nat}, slotsOf rs = [k] → rs[i]? = some (.slot k) → rs[j]? = some (.slot k) → i = j
  | [], _, _, _, e, _, _ => by cases e
  | .imm d :: r, i, j, k, e, h1, h2 => by
    cases i with
    | zero => cases h1
    | succ i =>
      cases j with
      | zero => cases h2
      | succ j => exact congrArg (· + 1) (slot_pos (rs := r) e h1 h2)
  | .tmp d :: r, i, j, k, e, h1, h2 => by
    cases i with
    | zero => cases h1
    | succ i =>
      cases j with
      | zero => cases h2
      | succ j => exact congrArg (· + 1) (slot_pos (rs := r) e h1 h2)
  | .slot l :: r, i, j, k, e, h1, h2 => by
    have e1 : slotsOf r = [] := (List.cons.inj e).2
    have no : ∀ {r : List RV}, slotsOf r = [] → ∀ (n m : Nat), r[n]? ≠ some (.slot m) := fun {r} => by
      induction r with
      | nil => exact fun _ n m z => by simp at z
      | cons x r ih =>
        intro e n m z
        cases x with
        | slot _ => cases e
        | imm _ =>
          cases n with
          | zero => cases z
          | succ n => exact ih e n m z
        | tmp _ =>
          cases n with
          | zero => cases z
          | succ n => exact ih e n m z
    cases i with
    | succ i => exact absurd h1 (no e1 i k)
    | zero =>
      cases j with
      | succ j => exact absurd h2 (no e1 j k)
      | zero => rfl
theorem lentOf_get : ∀ {as : List AV} {xs : List D}, lentOf as = some xs → ∃ i : Nat, as[i]? = some (AV.lent xs)
  | [], _, e => by cases e
  | .lent ys :: r, xs, e => by
    cases e
    exact ⟨0, rfl⟩
  | .imm d :: r, xs, e => by
    obtain ⟨i, h⟩ := lentOf_get (as := r) e
    exact ⟨i + 1, h⟩
section
variable {X : Cx} {p : Pr} {W : WX} {fa : FA} {F : List AV → RF} {e : Expr} {es : List Expr} {x : Str} {pn pos : Pos} {k : Nat} {f : Addr} {fd : FuncData} {ps : List Str}
theorem call_of {σ : St} {H : Hp} {Q : VK} (h : tE p W (fCallF F fa) σ H Q) : tCallS (spD p.K p.C p.fld F) (WE W) (tA p W fa) σ H Q := by
  obtain ⟨B, s, ok, q⟩ := h
  refine ⟨B, s, ok, run_mono (run_bind q) fun rs s1 B1 H1 x1 ok1 k vs hv => ?_⟩
  cases ea : toAVs s1 rs with
  | none =>
    rw [ea] at k
    exact k.elim
  | some as =>
    rw [ea] at k
    dsimp only at k
    have len : vs.length = as.length := (rvs_len hv).trans (toAVs_len ea).symm
    have lentq : ∀ (i : Nat) (a : Addr), lentL vs as i = some a → ∃ j xs, rs[i]? = some (.slot j) ∧ j ∈ slotsOf rs ∧ view s1 (.slot j) = some (.list xs) ∧ as[i]? = some (.lent xs) ∧ σ[j]? = some (some (.ref a)) := fun i a hl => by
      unfold lentL at hl
      split at hl
      · rename_i xs b e1 e2
        cases hl
        obtain ⟨j, v, h1, h2, h3, h4, h5⟩ := toAVs_lent hv ea e1
        rw [e2] at h4
        cases h4
        exact ⟨j, xs, h1, h2, h3, e1, h5⟩
      · cases hl
    have ao : (∀ (i j : Nat) (a : Addr), lentL vs as i = some a → lentL vs as j = some a → i = j) → ArgsOk p.K B1 H1 vs as := fun sep => ⟨len, fun i d hd => toAVs_imm hv ea hd, fun i xs hx => by
      obtain ⟨j, v, h1, h2, h3, h4, h5⟩ := toAVs_lent hv ea hx
      obtain ⟨a, us, ys, g1, g2, g3, g4⟩ := slot_name ok1 h3
      rw [g1] at h5
      cases h5
      cases g4
      exact ⟨a, us, h4, g2, (by
        have o : Owns σ s1 j a := ⟨g1, xs, by
          unfold view at h3
          simp only [getS_eq] at h3
          split at h3
          · rename_i q
            cases h3
            exact .inl q
          · rename_i q
            cases h3
            exact .inr q
          · cases h3⟩
        obtain ⟨_, _, _, nb, _⟩ := ok1.owned o
        exact nb), g3⟩, sep⟩
    split at k
    · -- nothing is lent
      rename_i es0
      have noL : ∀ i a, lentL vs as i ≠ some a := fun i a hl => by
        obtain ⟨j, xs, _, h2, _⟩ := lentq i a hl
        rw [es0] at h2
        cases h2
      have sep : ∀ (i j : Nat) (a : Addr), lentL vs as i = some a → lentL vs as j = some a → i = j := fun i j a h _ => absurd h (noL i a)
      refine ⟨B1, as, ok1.bh, ao sep, ?_⟩
      have gr : ∀ {B' H' : Hp} {as' : List AV}, CallPost p.K (lentL vs as) B1 H1 B' H' as' → Grow B1 H1 B' H' := fun {B' H' as'} c => ⟨c.bb, c.bh, fun b o z => c.fr b o z fun i => noL i b, c.new⟩
      split at k
      · rename_i d as' eF
        simp only [eF]
        exact fun B' H' v c r => k B' H' (gr c).ext (ok1.grows (gr c)) v r
      · rename_i xs as' eF
        simp only [eF]
        refine fun B' H' v c r => k B' H' (gr c).ext (ok1.grows (gr c)) v ?_
        obtain ⟨a, us, h1, h2, h3, h4, h5⟩ := r
        exact ⟨a, us, h1, x1.dom a h2, h3, h4, h5, ok1.notOwn h2⟩
      · rename_i e' as' eF
        simp only [eF]
        refine fun B' H' cls d c x => k B' H' cls d (gr c).ext (ok1.grows (gr c)) ?_
        obtain ⟨c', h1, h2, h3⟩ := x
        refine ⟨c', h1, h2, ?_⟩
        revert h3
        cases e'.arg with
        | none => exact fun h => h
        | some y =>
          rintro ⟨a, v, g1, g2, g3⟩
          exact ⟨a, v, g1, ok1.dom a g2, g3⟩
      · exact k.elim
    · -- one list is lent
      rename_i j es0
      have sep : ∀ (i l : Nat) (a : Addr), lentL vs as i = some a → lentL vs as l = some a → i = l := fun i l a h h' => by
        obtain ⟨j1, xs1, g1, g2, _⟩ := lentq i a h
        obtain ⟨j2, xs2, k1, k2, _⟩ := lentq l a h'
        rw [es0] at g2 k2
        have e1 : j1 = j := by simpa using g2
        have e2 : j2 = j := by simpa using k2
        subst e1
        subst e2
        exact slot_pos es0 g1 k1
      refine ⟨B1, as, ok1.bh, ao sep, ?_⟩
      have after : ∀ {B' H' : Hp} {as' : List AV} {xs : List D} {s2 : SD}, CallPost p.K (lentL vs as) B1 H1 B' H' as' → lentOf as' = some xs → shape as as' = true → setC s1 j (fun _ => some xs) = some s2 →
          Ext σ s1 s2 B1 H1 B' H' ∧ StOk p B' H' σ s2 := fun {B' H' as' xs s2} c el hsh es => by
        obtain ⟨i, hi⟩ := lentOf_get el
        obtain ⟨ys0, hi0⟩ := shape_get hsh hi
        obtain ⟨j0, v0, _, _, q3, q4, q5⟩ := toAVs_lent hv ea hi0
        obtain ⟨a, _, _, q6, _⟩ := slot_name ok1 q3
        rw [q6] at q5
        cases q5
        have ha : lentL vs as i = some a := by
          unfold lentL
          rw [hi0, q4]
        obtain ⟨us, u1, u2, u3⟩ := c.lent i a xs ha hi
        obtain ⟨j1, ys, g1, g2, g3, g4, g5⟩ := lentq i a ha
        rw [es0] at g2
        have e1 : j1 = j := by simpa using g2
        subst e1
        obtain ⟨b, ws, zs, w1, w2, w3, w4⟩ := slot_name ok1 g3
        rw [g5] at w1
        cases w1
        have only : ∀ l b, lentL vs as l = some b → b = a := fun l b hb => by
          obtain ⟨j2, _, m1, m2, _, _, m5⟩ := lentq l b hb
          rw [es0] at m2
          have e2 : j2 = j1 := by simpa using m2
          subst e2
          rw [g5] at m5
          cases m5
          rfl
        have ne : ∀ b o, b ≠ a → H1 b = some o → H' b = some o := fun b o hb z => c.fr b o z fun l q => hb (only l b q)
        have gr : Grow B1 H1 B' (fun b => if b = a then H1 a else H' b) := ⟨c.bb, fun b o z => by
            have hb : b ≠ a := fun q => by rw [q, u2] at z; cases z
            show (if b = a then H1 a else H' b) = some o
            rw [if_neg hb]
            exact c.bh b o z, fun b o z => by
            show (if b = a then H1 a else H' b) = some o
            by_cases hb : b = a
            · rw [if_pos hb, ← hb]
              exact z
            · rw [if_neg hb]
              exact ne b o hb z, c.new⟩
        obtain ⟨ok2, ow⟩ := setC_ok (ws := us) (ok1.grows gr) g5 es fun xs' ys' vs' _ _ _ e4 => by
          cases e4
          exact u3
        have eH : upd (fun b => if b = a then H1 a else H' b) a (.lst us) = H' := by
          funext b
          by_cases hb : b = a
          · rw [hb, upd_same, u1]
          · rw [upd_ne hb]
            show (if b = a then H1 a else H' b) = H' b
            rw [if_neg hb]
        rw [eH] at ok2
        have oa : Owns σ s1 j1 a := by
          refine ⟨g5, ys, ?_⟩
          unfold view at g3
          simp only [getS_eq] at g3
          split at g3
          · rename_i q
            cases g3
            exact .inl q
          · rename_i q
            cases g3
            exact .inr q
          · cases g3
        exact ⟨⟨c.bb, fun b o z n => ne b o (fun q => n j1 (q ▸ oa)) z, c.dom, c.new, ow⟩, ok2⟩
      split at k
      · rename_i r as' eF
        try simp only [eF]
        by_cases hsh : shape as as' = true
        rotate_left
        · rw [if_neg hsh] at k
          exact k.elim
        rw [if_pos hsh] at k
        cases el : lentOf as' with
        | none =>
          rw [el] at k
          exact k.elim
        | some xs =>
          rw [el] at k
          dsimp only at k
          cases es : setC s1 j (fun _ => some xs) with
          | none =>
            rw [es] at k
            exact k.elim
          | some s2 =>
            rw [es] at k
            cases r with
            | slot _ => exact k.elim
            | imm d =>
              refine fun B' H' v c r => ?_
              obtain ⟨x2, ok2⟩ := after c el hsh es
              exact k B' H' x2 ok2 v r
            | tmp ys =>
              refine fun B' H' v c r => ?_
              obtain ⟨x2, ok2⟩ := after c el hsh es
              obtain ⟨a, us, h1, h2, h3, h4, h5⟩ := r
              exact k B' H' x2 ok2 v ⟨a, us, h1, x1.dom a h2, h3, h4, h5, fun l o => ok1.notOwn h2 l (x2.own l a o)⟩
      · rename_i e' as' eF
        try simp only [eF]
        by_cases hsh : shape as as' = true
        rotate_left
        · rw [if_neg hsh] at k
          exact k.elim
        rw [if_pos hsh] at k
        cases el : lentOf as' with
        | none =>
          rw [el] at k
          exact k.elim
        | some xs =>
          rw [el] at k
          dsimp only at k
          cases es : setC s1 j (fun _ => some xs) with
          | none =>
            rw [es] at k
            exact k.elim
          | some s2 =>
            rw [es] at k
            refine fun B' H' cls d c x => ?_
            obtain ⟨x2, ok2⟩ := after c el hsh es
            refine k B' H' cls d x2 ok2 ?_
            obtain ⟨c', h1, h2, h3⟩ := x
            refine ⟨c', h1, h2, ?_⟩
            revert h3
            cases e'.arg with
            | none => exact fun h => h
            | some y =>
              rintro ⟨a, v, g1, g2, g3⟩
              exact ⟨a, v, g1, ok1.dom a g2, g3⟩
      · exact k.elim
    · exact k.elim
theorem de_call (hF : FnOk X.prog X.w X.K X.mg X.base (L2.CX X.prog X.w) k f fd ps (spD p.K p.C p.fld F)) (hr : Room k X.A) (hm : X.mg x = some (.ref f)) (hk : PySem.W.keepIn X.K (.ref f) = true) (hb : Binds X.K fd ps []) (tk : Takes X W)
    (ha : PA X (e :: es) (tA p W fa)) (hg : Gl X x := by rfl) (hdb : (x == ("__debug__" : Str)) = false := by decide) (he : starEach (e :: es) X.env = (false, eval e X.env) :: starEach es X.env := by rfl) (hpl : (backTo pos (starEach es X.env)).any (·.1) = false := by rfl) :
    PE X (.Call (.Name x pn) (e :: es) [] pos) (tE p W (fCallF F fa)) := PE.imp (pe_callS hF hr hg hm hk hb (fun σ => passAt tk σ) ha hdb he hpl) fun σ H Q q => call_of q
end
end DL
end

set_option Elab.async false
set_option linter.all false
set_option maxRecDepth 100000
set_option maxHeartbeats 4000000
noncomputable section
namespace DL
open PySem PySem.Spec PyProof.Rows L2

/-! ### while -/
def loopW (u : FT) (body : FS) : Nat → FS
  | 0 => fun _ => .no
  | n + 1 => fun s => (u s).stm fun b s1 => match b with
    | true => (match body s1 with
      | .nx s2 => loopW u body n s2
      | .ct s2 => loopW u body n s2
      | .bk s2 => .nx s2
      | .rt r s2 => .rt r s2
      | .ex e s2 => .ex e s2
      | .no => .no)
    | false => .nx s1
section
variable {X : Cx} {p : Pr} {W : WX} {u : FT} {fb : FS} {c e : Expr} {body : List Stmt} {pos : Pos}
theorem ds_while (n : Nat) (hp : PassesOwn (model X.prog X.w) X.A X.env X.xe) (hc : PT X c (tT p W u)) (hb : PSs X body (tS p W fb)) : PS X (.While c body [] pos) (tS p W (loopW u fb n)) := PS.imp (ps_while hp hc hb) fun Dn σ H h => by
  obtain ⟨B, s, ok, h⟩ := h
  refine ⟨fun m σ H => ∃ B s, StOk p B H σ s ∧ sat p W B Dn (loopW u fb m s), ⟨n, B, s, ok, h⟩, ?_⟩
  rintro m σ H ⟨B, s, ok, h⟩
  cases m with
  | zero => exact h.elim
  | succ m =>
    refine ⟨B, s, ok, run_mono (run_sat h) fun b s1 B1 H1 x1 ok1 k => ?_⟩
    cases b with
    | false =>
      rw [if_neg Bool.false_ne_true]
      exact k σ B1 H1 (Same.refl _) ok1
    | true =>
      rw [if_pos rfl]
      refine ⟨fun σ' H' => ∃ B s, StOk p B H' σ' s ∧ sat p W B Dn (loopW u fb m s), fun σ' H' q => ⟨m, Nat.lt_succ_self m, q⟩, B1, s1, ok1, ?_⟩
      dsimp only at k
      revert k
      cases fb s1 with
      | nx s2 => exact fun k σ' B' H' b ok' => ⟨B', s2, ok', sat_later b k⟩
      | ct s2 => exact fun k σ' B' H' b ok' => ⟨B', s2, ok', sat_later b k⟩
      | bk s2 => exact fun k => k
      | rt r s2 => exact fun k => k
      | ex e s2 => exact fun k => k
      | no => exact fun k => k

/-! ### raise -/
def fRaise0 (n : Nat) : FS := fun s => .ex ⟨n, none⟩ s
def fRaise1 (n : Nat) (f : FE) : FS := fun s => (fI f s).stm fun r s1 => match r with
  | .imm d => .ex ⟨n, some d⟩ s1
  | _ => .no
theorem ds_raise0 {n : Nat} {C : Addr} (hc : X.calm = true) (tk : Takes X W) (hC : p.C n = some C) (hm : PMk X e (fun _ H Q => Q (.ref C) none H)) : PS X (.Raise (some e) none pos) (tS p W (fRaise0 n)) := PS.imp (ps_raise hc tk hm) fun Dn σ H h => by
  obtain ⟨B, s, ok, h⟩ := h
  exact h σ B H _ _ (Same.refl _) ok ⟨C, hC, rfl, rfl⟩
/-- __init__(self, x): self.f = x -/
def spI1 (C : Addr) (f : Str) : Sp := fun vs H Q _ => ∃ a y, vs = [.ref a, y] ∧ H a = some (exo a C none) ∧ ∀ dx, H dx = none → dx ≠ a → Q .non (upd (upd H dx (exd dx [(f, y)])) a (exo a C (some dx)))
theorem ds_raise1 {n : Nat} {C : Addr} {f : FE} (hc : X.calm = true) (tk : Takes X W) (hC : p.C n = some C) (hm : PMk X e (tMkO C (spI1 C (p.fld n)) [] (tCons (tE p W f) tNil))) : PS X (.Raise (some e) none pos) (tS p W (fRaise1 n f)) := PS.imp (ps_raise hc tk hm) fun Dn σ H h => by
  obtain ⟨B, s, ok, h⟩ := h
  refine imm_to ⟨B, s, ok, run_mono (run_sat h) fun r s1 B1 H1 x1 ok1 k v hv => ?_⟩
  cases r with
  | tmp _ => exact k.elim
  | slot _ => exact k.elim
  | imm d =>
    refine ⟨by show 1 ≤ 1000; decide, fun a na => ⟨a, v, rfl, upd_same, fun dx nx ne => ⟨rfl, dx, [(p.fld n, v)], upd_same, ?_, ?_, ?_⟩⟩⟩
    · rw [upd_ne ne, upd_same]
    · rw [upd_ne ne] at nx
      exact nx
    · have nd : H1 dx = none := by
        rw [upd_ne ne] at nx
        exact nx
      have eH : upd (del (upd (upd (upd H1 a (exo a C none)) dx (exd dx [(p.fld n, v)])) a (exo a C (some dx))) a) dx (.xd [(p.fld n, v)]) = upd H1 dx (.xd [(p.fld n, v)]) := by
        funext b
        by_cases hb : b = dx
        · rw [hb, upd_same, upd_same]
        · rw [upd_ne hb, upd_ne hb]
          by_cases ha : b = a
          · rw [ha, del_same, na]
          · rw [del_ne ha, upd_ne ha, upd_ne hb, upd_ne ha]
      rw [eH]
      exact k σ B1 _ _ _ (Same.refl _) (ok1.newH nd) ⟨C, hC, rfl, dx, v, rfl, ok1.dom dx nd, ok1.bh.free nd, upd_same, hv⟩
end

/-! ### try -/
def noExc (s : SD) : Bool := s.all fun dv => match dv with
  | some .exc => false
  | _ => true
def dropRS (i : Nat) : RS → RS
  | .nx s => if noExc (s.set i none) then .nx (s.set i none) else .no
  | .bk s => if noExc (s.set i none) then .bk (s.set i none) else .no
  | .ct s => if noExc (s.set i none) then .ct (s.set i none) else .no
  | .rt (.slot _) _ => .no
  | .rt r s => if noExc (s.set i none) then .rt r (s.set i none) else .no
  | .ex _ _ => .no
  | .no => .no
def keepRS : RS → RS
  | .nx s => if noExc s then .nx s else .no
  | .bk s => if noExc s then .bk s else .no
  | .ct s => if noExc s then .ct s else .no
  | .rt r s => if noExc s then .rt r s else .no
  | .ex _ _ => .no
  | .no => .no
abbrev DCl := (Nat → Bool) × Option Nat × (DExc → FS)
def handle : List DCl → DExc → FS
  | [], e => fun s => .ex e s
  | (m, none, k) :: r, e => fun s => if m e.cls then (if noExc s then keepRS (k e s) else .no) else handle r e s
  | (m, some i, k) :: r, e => fun s => if m e.cls then (if noExc s && plainAt s i then dropRS i (k e (s.set i (some .exc))) else .no) else handle r e s
def fTry (fb : FS) (cs : List DCl) : FS := fun s => match fb s with
  | .ex e s1 => handle cs e s1
  | r => r
/-- the exception in a suite: its dict is data that stands -/
def XdIn (p : Pr) (B : Hp) (e : DExc) (cls : Value) (d : Option Addr) : Prop :=
  ∃ c, p.C e.cls = some c ∧ cls = .ref c ∧ match e.arg with
    | none => True
    | some x => ∃ (a : Addr) (v : V), d = some a ∧ B a = some (.xd [(p.fld e.cls, v)]) ∧ Dp p.K B v x
def rebase (p : Pr) (B : Hp) (a : Addr) : Pr := pr p.K p.Z B p.L p.C p.fld (some a)
def tX (p : Pr) (k : DExc → FS) (a : Addr) (cls : Value) (d : Option Addr) : TS := fun Dn σ H => ∃ B s e, XdIn p B e cls d ∧ StOk (rebase p B a) B H σ s ∧ sat (rebase p B a) WF B Dn (k e s)
theorem suite_of {X : Cx} {p : Pr} {k : DExc → FS} {a : Addr} {cls : Value} {d : Option Addr} {sts : List Stmt} (h : ∀ e B, XdIn p B e cls d → PSs X sts (tS (rebase p B a) WF (k e))) : PSs X sts (tX p k a cls d) := ⟨fun pins s σ H Dn I q => by
  obtain ⟨B, s', e, x, ok, q⟩ := q
  exact (h e B x).run pins s σ H Dn I ⟨B, s', ok, q⟩⟩
theorem noExc_at {s : SD} {i : Nat} (h : noExc s = true) : s[i]? ≠ some (some .exc) := fun z => by
  have m := List.mem_of_getElem? z
  have q := List.all_eq_true.mp h _ m
  cases q
theorem to_base {p : Pr} {B H : Hp} {σ : St} {s : SD} {Bs : Hp} {a : Addr} (ok : StOk p B H σ s) (hs : noExc s = true) (bb : Same B Bs) (bh : Same Bs H) (nw : ∀ b, p.Z b ≠ none → B b = none → Bs b = none) (ow : ∀ i c, Owns σ s i c → Bs c = none) : StOk (rebase p Bs a) Bs H σ s := by
  refine ⟨ok.len, fun i dv v e1 e2 => ?_, ok.sep, Same.refl _, bh, ok.fr, ok.dom, fun _ _ z => z⟩
  have q := ok.slot i dv v e1 e2
  match dv, q with
  | none, q => exact q
  | some (.imm d), ⟨l, x, e, r⟩ => exact ⟨l, x, e, dp_same bb _ _ r⟩
  | some (.own xs), ⟨l, c, us, e, z, h, n, r⟩ => exact ⟨l, c, us, e, z, h, ow i c ⟨by rw [e2, e], xs, .inl e1⟩, dps_same bb _ _ r⟩
  | some (.lent xs), ⟨c, us, l, e, h, n, r⟩ => exact ⟨c, us, l, e, h, ow i c ⟨by rw [e2, e], xs, .inr e1⟩, dps_same bb _ _ r⟩
  | some .exc, q => exact absurd e1 (noExc_at hs)
theorem of_base {p : Pr} {B0' B H : Hp} {σ : St} {s : SD} {a : Addr} (ok : StOk (rebase p B0' a) B H σ s) (hs : noExc s = true) (b0 : Same p.B0 B0') (nw : ∀ b, p.Z b ≠ none → p.B0 b = none → B0' b = none) : StOk p B H σ s := by
  refine ⟨ok.len, fun i dv v e1 e2 => ?_, ok.sep, b0.trans ok.b0, ok.bh, ok.fr, ok.dom, fun b z e => ok.new b z (nw b z e)⟩
  have q := ok.slot i dv v e1 e2
  match dv, q with
  | none, q => exact q
  | some (.imm d), q => exact q
  | some (.own xs), q => exact q
  | some (.lent xs), q => exact q
  | some .exc, q => exact absurd e1 (noExc_at hs)
theorem setN_ok {p : Pr} {B H : Hp} {σ : St} {s : SD} {i : Nat} {x : Option V} (ok : StOk p B H σ s) (hl : p.L i = none) : StOk p B H (σ.set i x) (s.set i none) ∧ ∀ j c, Owns (σ.set i x) (s.set i none) j c → Owns σ s j c := by
  have ow : ∀ j c, Owns (σ.set i x) (s.set i none) j c → Owns σ s j c := fun j c o => by
    obtain ⟨o1, xs, o2⟩ := o
    by_cases e : i = j
    · subst e
      have hi : i < s.length := by
        rcases o2 with o2 | o2 <;> (have := (List.getElem?_eq_some_iff.mp o2).1; simpa using this)
      rw [List.getElem?_set_self hi] at o2
      rcases o2 with o2 | o2 <;> cases o2
    · rw [List.getElem?_set_ne e] at o1 o2
      exact ⟨o1, xs, o2⟩
  refine ⟨⟨by rw [List.length_set, List.length_set]; exact ok.len, fun j dj vj e1 e2 => ?_, fun j k c o1 o2 => ok.sep j k c (ow j c o1) (ow k c o2), ok.b0, ok.bh, ok.fr, ok.dom, ok.new⟩, ow⟩
  by_cases ej : i = j
  · subst ej
    rw [List.getElem?_set_self (by have := (List.getElem?_eq_some_iff.mp e1).1; simpa using this)] at e1
    cases e1
    exact hl
  · rw [List.getElem?_set_ne ej] at e1 e2
    exact ok.slot j dj vj e1 e2
theorem setX_ok {p : Pr} {B H : Hp} {σ : St} {s : SD} {i : Nat} {a : Addr} (ok : StOk p B H σ s) (hl : p.L i = none) (hx : p.xa = some a) : StOk p B H (σ.set i (some (.ref a))) (s.set i (some .exc)) := by
  have ow : ∀ j c, Owns (σ.set i (some (.ref a))) (s.set i (some .exc)) j c → Owns σ s j c := fun j c o => by
    obtain ⟨o1, xs, o2⟩ := o
    by_cases e : i = j
    · subst e
      have hi : i < s.length := by
        rcases o2 with o2 | o2 <;> (have := (List.getElem?_eq_some_iff.mp o2).1; simpa using this)
      rw [List.getElem?_set_self hi] at o2
      rcases o2 with o2 | o2 <;> cases o2
    · rw [List.getElem?_set_ne e] at o1 o2
      exact ⟨o1, xs, o2⟩
  refine ⟨by rw [List.length_set, List.length_set]; exact ok.len, fun j dj vj e1 e2 => ?_, fun j k c o1 o2 => ok.sep j k c (ow j c o1) (ow k c o2), ok.b0, ok.bh, ok.fr, ok.dom, ok.new⟩
  by_cases ej : i = j
  · subst ej
    rw [List.getElem?_set_self (by have := (List.getElem?_eq_some_iff.mp e1).1; simpa using this)] at e1
    rw [List.getElem?_set_self (by have := (List.getElem?_eq_some_iff.mp e2).1; simpa using this)] at e2
    cases e1
    cases e2
    exact ⟨hl, a, hx, rfl⟩
  · rw [List.getElem?_set_ne ej] at e1 e2
    exact ok.slot j dj vj e1 e2
/-- the clauses, read by data: the class that each names, its match by numbers -/
inductive ClsD (p : Pr) : List DCl → List Cl → Prop
  | nil : ClsD p [] []
  | cons {m : Nat → Bool} {io : Option Nat} {k : DExc → FS} {c : Value} {cs : List DCl} {l : List Cl} (hm : ∀ n C, p.C n = some C → PySem.W.exmOne p.K (.ref C) c = some (m n)) (r : ClsD p cs l) : ClsD p ((m, io, k) :: cs) ((c, io, tX p k) :: l)
theorem mix_of {p : Pr} {W : WX} {Dn : Ends} : ∀ {cs : List DCl} {l : List Cl} {e : DExc} {s : SD} {σ : St} {B H : Hp} {cls : Value} {d : Option Addr}, ClsD p cs l → StOk p B H σ s → ExOk p B H e cls d → sat p W B Dn (handle cs e s) → wMix p.K W Dn l cls d σ H
  | _, _, e, s, σ, B, H, cls, d, .nil, ok, x, h => h σ B H cls d (Same.refl _) ok x
  | _, _, e, s, σ, B, H, cls, d, .cons (m := m) (io := io) (k := k) (c := c) (cs := cs) (l := l) hm r, ok, x, h => by
    obtain ⟨c0, x1, x2, x3⟩ := id x
    subst x2
    -- the exception's dict joins the data
    have base : ∃ Bs, Same B Bs ∧ Same Bs H ∧ (∀ b, p.Z b ≠ none → B b = none → Bs b = none) ∧ (∀ i c, Owns σ s i c → Bs c = none) ∧ XdIn p Bs e (.ref c0) d := by
      revert x3
      cases ea : e.arg with
      | none => exact fun _ => ⟨B, Same.refl _, ok.bh, fun _ _ z => z, fun i c o => by
          obtain ⟨_, _, _, z, _⟩ := ok.owned o
          exact z, c0, x1, rfl, by rw [ea]; trivial⟩
      | some y =>
        rintro ⟨dd, v, e1, e2, e3, e4, e5⟩
        have sb : Same B (upd B dd (.xd [(p.fld e.cls, v)])) := same_upd e3
        refine ⟨upd B dd (.xd [(p.fld e.cls, v)]), sb, fun b o z => ?_, fun b z w => ?_, fun i c o => ?_, c0, x1, rfl, by rw [ea]; exact ⟨dd, v, e1, upd_same, dp_same sb _ _ e5⟩⟩
        · by_cases q : b = dd
          · subst q
            rw [upd_same] at z
            cases z
            exact e4
          · rw [upd_ne q] at z
            exact ok.bh b o z
        · rw [upd_ne (fun q => z (by rw [q]; exact e2))]
          exact w
        · obtain ⟨us, _, z1, z2, _⟩ := ok.owned o
          rw [upd_ne (fun q => by rw [q, e4] at z1; cases z1)]
          exact z2
    obtain ⟨Bs, bb, bh, nw, ow, xd⟩ := base
    have b0s : Same p.B0 Bs := ok.b0.trans bb
    have nws : ∀ b, p.Z b ≠ none → p.B0 b = none → Bs b = none := fun b z w => nw b z (ok.new b z w)
    cases io with
    | none =>
      refine ⟨m e.cls, hm _ _ x1, fun hme a na => ?_, fun hme => ?_⟩
      · unfold handle at h
        rw [if_pos hme] at h
        by_cases hx : noExc s = true
        rotate_left
        · rw [if_neg hx] at h
          exact h.elim
        rw [if_pos hx] at h
        refine ⟨Bs, s, e, xd, to_base ok hx bb bh nw ow, ?_⟩
        revert h
        have back : ∀ {s2 : SD} {σ2 : St} {B2 H2 : Hp}, noExc s2 = true → StOk (rebase p Bs a) B2 H2 σ2 s2 → StOk p B2 H2 σ2 s2 := fun hn ok2 => of_base ok2 hn b0s nws
        cases k e s with
        | no => exact fun h => h
        | ex _ _ => exact fun h => h.elim
        | nx s2 =>
          intro h
          have h : sat p W B Dn (if noExc s2 = true then .nx s2 else .no) := h
          by_cases hn : noExc s2 = true
          · rw [if_pos hn] at h
            exact fun σ2 B2 H2 b2 ok2 => h σ2 B2 H2 (bb.trans b2) (back hn ok2)
          · rw [if_neg hn] at h
            exact h.elim
        | bk s2 =>
          intro h
          have h : sat p W B Dn (if noExc s2 = true then .bk s2 else .no) := h
          by_cases hn : noExc s2 = true
          · rw [if_pos hn] at h
            exact fun σ2 B2 H2 b2 ok2 => h σ2 B2 H2 (bb.trans b2) (back hn ok2)
          · rw [if_neg hn] at h
            exact h.elim
        | ct s2 =>
          intro h
          have h : sat p W B Dn (if noExc s2 = true then .ct s2 else .no) := h
          by_cases hn : noExc s2 = true
          · rw [if_pos hn] at h
            exact fun σ2 B2 H2 b2 ok2 => h σ2 B2 H2 (bb.trans b2) (back hn ok2)
          · rw [if_neg hn] at h
            exact h.elim
        | rt r2 s2 =>
          intro h
          have h : sat p W B Dn (if noExc s2 = true then .rt r2 s2 else .no) := h
          by_cases hn : noExc s2 = true
          · rw [if_pos hn] at h
            refine fun σ2 B2 H2 v b2 ok2 hv => h σ2 B2 H2 v (bb.trans b2) (back hn ok2) ?_
            cases r2 with
            | imm _ => exact hv
            | tmp _ => exact hv
            | slot _ => exact hv
          · rw [if_neg hn] at h
            exact h.elim
      · unfold handle at h
        rw [if_neg (by rw [hme]; exact Bool.false_ne_true)] at h
        exact mix_of r ok x h
    | some i =>
      refine ⟨m e.cls, hm _ _ x1, fun hme a na => ?_, fun hme => ?_⟩
      · unfold handle at h
        rw [if_pos hme] at h
        by_cases hx : (noExc s && plainAt s i) = true
        rotate_left
        · rw [if_neg hx] at h
          exact h.elim
        rw [if_pos hx] at h
        rw [Bool.and_eq_true] at hx
        obtain ⟨hl, _⟩ := plain_L ok hx.2
        refine ⟨Bs, s.set i (some .exc), e, xd, setX_ok (to_base ok hx.1 bb bh nw ow) hl rfl, ?_⟩
        revert h
        have back : ∀ {s2 : SD} {σ2 : St} {B2 H2 : Hp}, noExc (s2.set i none) = true → StOk (rebase p Bs a) B2 H2 σ2 s2 → StOk p B2 H2 (σ2.set i none) (s2.set i none) := fun hn ok2 => of_base (setN_ok ok2 hl).1 hn b0s nws
        cases k e (s.set i (some .exc)) with
        | no => exact fun h => h
        | ex _ _ => exact fun h => h.elim
        | nx s2 =>
          intro h
          have h : sat p W B Dn (if noExc (s2.set i none) = true then .nx (s2.set i none) else .no) := h
          by_cases hn : noExc (s2.set i none) = true
          · rw [if_pos hn] at h
            exact fun σ2 B2 H2 b2 ok2 => h _ B2 H2 (bb.trans b2) (back hn ok2)
          · rw [if_neg hn] at h
            exact h.elim
        | bk s2 =>
          intro h
          have h : sat p W B Dn (if noExc (s2.set i none) = true then .bk (s2.set i none) else .no) := h
          by_cases hn : noExc (s2.set i none) = true
          · rw [if_pos hn] at h
            exact fun σ2 B2 H2 b2 ok2 => h _ B2 H2 (bb.trans b2) (back hn ok2)
          · rw [if_neg hn] at h
            exact h.elim
        | ct s2 =>
          intro h
          have h : sat p W B Dn (if noExc (s2.set i none) = true then .ct (s2.set i none) else .no) := h
          by_cases hn : noExc (s2.set i none) = true
          · rw [if_pos hn] at h
            exact fun σ2 B2 H2 b2 ok2 => h _ B2 H2 (bb.trans b2) (back hn ok2)
          · rw [if_neg hn] at h
            exact h.elim
        | rt r2 s2 =>
          intro h
          cases r2 with
          | slot _ => exact h.elim
          | imm d2 =>
            have h : sat p W B Dn (if noExc (s2.set i none) = true then .rt (.imm d2) (s2.set i none) else .no) := h
            by_cases hn : noExc (s2.set i none) = true
            · rw [if_pos hn] at h
              exact fun σ2 B2 H2 v b2 ok2 hv => h (σ2.set i none) B2 H2 v (bb.trans b2) (back hn ok2) hv
            · rw [if_neg hn] at h
              exact h.elim
          | tmp xs =>
            have h : sat p W B Dn (if noExc (s2.set i none) = true then .rt (.tmp xs) (s2.set i none) else .no) := h
            by_cases hn : noExc (s2.set i none) = true
            · rw [if_pos hn] at h
              refine fun σ2 B2 H2 v b2 ok2 hv => h (σ2.set i none) B2 H2 v (bb.trans b2) (back hn ok2) ?_
              obtain ⟨c, us, g1, g2, g3, g4, g5, g6⟩ := hv
              exact ⟨c, us, g1, g2, g3, g4, g5, fun j o => g6 j ((setN_ok ok2 hl).2 j c o)⟩
            · rw [if_neg hn] at h
              exact h.elim
      · unfold handle at h
        rw [if_neg (by rw [hme]; exact Bool.false_ne_true)] at h
        exact mix_of r ok x h
section
variable {X : Cx} {p : Pr} {W : WX} {fb : FS} {cs : List DCl} {l : List Cl} {body : List Stmt} {h₀ : ExceptHandler} {hds : List ExceptHandler} {pos : Pos}
theorem ds_try (hs : X.stack = X.env :: X.outer) (hf : X.env.frame = some X.env.locals) (hN : X.N.Nodup) (tk : Takes X W)
    (hb : ∀ (W' : WX) (pn : List (Addr × Obj)) (xe : Value → Shared → Prop), Takes (X.tr pn xe) W' → PassesOwn (model X.prog X.w) X.A X.env xe → PSs (X.tr pn xe) body (tS p W' fb))
    (hd : ClsD p cs l) (hh : HdMix X (h₀ :: hds) l) (eK : p.K = X.K := by rfl) : PS X (.Try body (h₀ :: hds) [] [] pos) (tS p W (fTry fb cs)) := PS.imp (ps_try_mix hs hf hN tk hb hh) fun Dn σ H h => by
  obtain ⟨B, s, ok, h⟩ := h
  refine ⟨B, s, ok, ?_⟩
  unfold fTry at h
  revert h
  cases fb s with
  | ex e s1 =>
    intro h σ' B' H' cls d b ok' x
    rw [← eK]
    exact mix_of hd ok' x (sat_later b h)
  | nx s1 => exact fun h => h
  | bk s1 => exact fun h => h
  | ct s1 => exact fun h => h
  | rt r s1 => exact fun h => h
  | no => exact fun h => h
/-- e.f in a suite -/
def fXarg (e : DExc) (i : Nat) : FE := fun s => match s[i]?, e.arg with
  | some (some .exc), some x => .ok (.imm x) s
  | _, _ => .no
theorem de_xf {a C : Addr} {oe : Obj} {cls : Value} {d : Option Addr} {pn : List (Addr × Obj)} {B : Hp} {e : DExc} {i : Nat} {x n : Str} {px pos : Pos} (T : XfC X.K C) (hno : PySem.W.findIn X.K (.ref C) n = some none)
    (hz : Zc cls d oe) (hf : ∃ vs, oe.data = .fields vs) (hx : XdIn p B e cls d) (he : ∀ c x, p.C e.cls = some c → e.arg = some x → c = C ∧ p.fld e.cls = n) (hN : X.N[i]? = some x := by rfl) (hv : Vis X.env.scope x := by first | exact Or.inl rfl | exact Or.inr (Or.inl rfl) | exact Or.inr (Or.inr rfl)) (hd : (x == ("__debug__" : Str)) = false := by decide)
    (hcd : (x == ("__classdict__" : Str)) = false := by decide) (hb : attributeBase (.Name x px) n X.env (eval (.Name x px) X.env) = eval (.Name x px) X.env := by rfl) :
    PE (X.suite a ((a, oe) :: pn)) (.Attribute (.Name x px) n pos) (tE (rebase p B a) WF (fXarg e i)) := PE.imp (pe_xf T hno hz hf (pe_var (X := X.suite a ((a, oe) :: pn)) hN hv hd hcd) hb) fun σ H Q h => by
  obtain ⟨B1, s, ok, h⟩ := h
  unfold fXarg at h
  split at h
  · rename_i y e1 e2
    obtain ⟨c, x1, x2, x3⟩ := hx
    rw [e2] at x3
    obtain ⟨dd, v, d1, d2, d3⟩ := x3
    obtain ⟨ec, ef⟩ := he c y x1 e2
    have hi := (List.getElem?_eq_some_iff.mp e1).1
    have hσ : i < σ.length := by rw [ok.len]; exact hi
    obtain ⟨_, a', xa, ev⟩ := ok.slot i _ _ e1 (List.getElem?_eq_getElem hσ)
    cases xa
    refine ⟨_, by rw [List.getElem?_eq_getElem hσ, ev], rfl, by rw [x2, ec], dd, _, v, d1, ok.bh _ _ (ok.b0 _ _ d2), ?_, ?_⟩
    · rw [ef]
      simp [List.lookup]
    · exact h B1 H .refl ok v (dp_same ok.b0 _ _ d3)
  · exact h.elim
end
end DL
end

set_option Elab.async false
set_option linter.all false
set_option maxRecDepth 100000
set_option maxHeartbeats 4000000
noncomputable section
namespace DL
open PySem PySem.Spec PyProof.Rows L2

/-! ### isinstance -/
inductive TyN where
  | int | bool | str | list | tuple
def TyN.name : TyN → String
  | .int => "int"
  | .bool => "bool"
  | .str => "str"
  | .list => "list"
  | .tuple => "tuple"
inductive Kd where
  | non | bl | int | str | lst | tup
def Kd.name : Kd → String
  | .non => "NoneType"
  | .bl => "bool"
  | .int => "int"
  | .str => "str"
  | .lst => "list"
  | .tup => "tuple"
def kd : D → Option Kd
  | .none => some .non
  | .bool _ => some .bl
  | .int _ => some .int
  | .str _ => some .str
  | .list _ => some .lst
  | .tuple _ => some .tup
  | .dict _ => none
def isK : TyN → Kd → Bool
  | .int, .int => true
  | .int, .bl => true
  | .bool, .bl => true
  | .str, .str => true
  | .list, .lst => true
  | .tuple, .tup => true
  | _, _ => false
theorem kit_all (T : TyN) (k : Kd) : kitB k.name T.name = some (isK T k) := by
  cases T <;> cases k <;> decide +kernel
def hIs (T : TyN) (d : D) : Option PO := (kd d).map fun k => .val (.bool (isK T k))
theorem his_kit {K : PySem.W.Frag} {T : TyN} {d : D} {o : PO} (h : hIs T d = some o) : ∃ k b, kd d = some k ∧ o = .val (.bool b) ∧ PySem.W.kitOne K (.type k.name) (.type T.name) = some b := by
  unfold hIs at h
  cases e : kd d with
  | none =>
    rw [e] at h
    cases h
  | some k =>
    rw [e] at h
    cases h
    exact ⟨k, _, rfl, rfl, kit_ty (kit_all T k)⟩
theorem ty_of {K : PySem.W.Frag} {B H : Hp} {v : V} {d : D} (bh : Same B H) {k : Kd} (h : Vw K B H v d) (ek : kd d = some k) : TyX K H v (.type k.name) := by
  have lst : ∀ {a : Addr} {vs : List V}, SqL K H a vs → TyX K H (.ref a) (.type "list") := fun {a vs} h => by
    rcases h with (h | ⟨o, h⟩) | ⟨o, its, n, h, hc, _⟩
    · exact .base (.lst h)
    · exact .base (.frz h)
    · exact .kList h hc
  rcases h with h | ⟨a, vs, ys, rfl, rfl, h1, h2⟩
  · cases h with
    | non => obtain rfl : k = .non := (Option.some.inj ek).symm; exact .base .non
    | bl b => obtain rfl : k = .bl := (Option.some.inj ek).symm; exact .base (.bl b)
    | int i => obtain rfl : k = .int := (Option.some.inj ek).symm; exact .base (.int i)
    | str x => obtain rfl : k = .str := (Option.some.inj ek).symm; exact .base (.str x)
    | lst hs ha => obtain rfl : k = .lst := (Option.some.inj ek).symm; exact lst (sqL_same bh hs)
    | tup hs ha =>
      obtain rfl : k = .tup := (Option.some.inj ek).symm
      rcases sqT_same bh hs with (h | ⟨o, h⟩) | h
      · exact .base (.tup h)
      · exact .fTuple h
      · obtain ⟨o, n, its, e, c, _⟩ := h
        exact .kTuple e c
  · obtain rfl : k = .lst := (Option.some.inj ek).symm
    exact lst (.inl (Rd.of h1))
section
variable {X : Cx} {p : Pr} {W : WX} {f : FE} {e : Expr} {pos : Pos}
theorem de_isi (T : TyN) {x : Str} {p1 p2 : Pos} (eT : x = Str.ofString T.name) (hgi : Gl X "isinstance") (hmi : X.mg "isinstance" = none) (hg : Gl X x) (hm : X.mg x = none) (hv : bootBuiltins x = some (.type T.name)) (ha : PE X e (tE p W f)) (eK : p.K = X.K := by rfl)
    (hn : x ≠ "__name__" := by decide) (hd : (x == ("__debug__" : Str)) = false := by decide)
    (h1 : starEach [e, .Name x p2] X.env = (false, eval e X.env) :: starEach [.Name x p2] X.env := by rfl) (h2 : starEach [Expr.Name x p2] X.env = (false, eval (.Name x p2) X.env) :: starEach [] X.env := by rfl) (h3 : (backTo pos (starEach [Expr.Name x p2] X.env)).any (·.1) = false := by rfl) :
    PE X (.Call (.Name "isinstance" p1) [e, .Name x p2] [] pos) (tE p W (f1 (hIs T) f)) :=
  PE.imp (pe_callB call_isi hgi hmi PyProof.Rows.boot_isinstance (pa_cons ha (pa_cons (pe_bltn (v := .ty T.name) hg hm hv rfl hn hd) pa_nil h2) h1) (by decide) (by decide) h1 h3) fun σ H Q h => by
  obtain ⟨B, s, ok, q⟩ := h
  refine ⟨B, s, ok, run_mono (run_bind q) fun r1 s1 B1 H1 x1 ok1 k v hv => ?_⟩
  revert k
  cases ev : view s1 r1 with
  | none => exact fun k => k.elim
  | some d =>
    cases eh : hIs T d with
    | none =>
      intro k
      simp only [eh] at k
      exact k.elim
    | some o =>
      intro k
      simp only [eh] at k
      obtain ⟨kk, b, ek, eo, hk⟩ := his_kit (K := X.K) eh
      subst eo
      refine ⟨v, .ty T.name, _, _, b, rfl, .ty _, ty_of (K := X.K) ok1.bh (by rw [← eK]; exact vw_of hv ok1 ev) ek, hk, ?_⟩
      exact k B1 H1 .refl ok1 _ (Dp.bl _)
end

/-! ### in, not in -/
def memI (i : Int) : List D → Option Bool
  | [] => some false
  | .int j :: r => if j = i then (memI i r).map fun _ => true else memI i r
  | _ :: _ => none
theorem memI_ok {i : Int} : ∀ {ds : List D} {b : Bool}, memI i ds = some b → (ds.any fun z => PyData.eqv z (.int i)) = b ∧ PyData.canLayAll0 ds = true ∧ PyData.depthAll ds = 0
  | [], b, h => by
    cases h
    exact ⟨rfl, by simp [PyData.canLayAll0], by simp [PyData.depthAll]⟩
  | d :: r, b, h => by
    unfold memI at h
    split at h
    · rename_i e
      cases e
    · rename_i j r' e
      cases e
      split at h
      · rename_i hj
        subst hj
        cases q : memI j r with
        | none =>
          rw [q] at h
          cases h
        | some c =>
          rw [q] at h
          cases h
          obtain ⟨h1, h2, h3⟩ := memI_ok q
          refine ⟨?_, by simp [PyData.canLayAll0, PyData.canLay0, h2], by simp [PyData.depthAll, PyData.depth, h3]⟩
          rw [List.any_cons]
          simp [PyData.eqv]
      · rename_i hj
        obtain ⟨h1, h2, h3⟩ := memI_ok h
        refine ⟨?_, by simp [PyData.canLayAll0, PyData.canLay0, h2], by simp [PyData.depthAll, PyData.depth, h3]⟩
        rw [List.any_cons, h1]
        simp [PyData.eqv, hj]
    · cases h
def memG (d : D) (ds : List D) : Option Bool := if SeqAt.shaped d && SeqAt.shaped (.list ds) then some (ds.any fun z => PyData.eqv z d) else none
def memD : D → List D → Option Bool
  | .int i, ds => (match memI i ds with
    | some b => some b
    | none => memG (.int i) ds)
  | d, ds => memG d ds
theorem memG_ok {d : D} {ds : List D} {b : Bool} (h : memG d ds = some b) : SeqAt.shaped d = true ∧ SeqAt.shaped (.list ds) = true ∧ (ds.any fun z => PyData.eqv z d) = b := by
  unfold memG at h
  split at h
  · rename_i hz
    cases h
    rw [Bool.and_eq_true] at hz
    exact ⟨hz.1, hz.2, rfl⟩
  · cases h
theorem memD_ok {d : D} {ds : List D} {b : Bool} (h : memD d ds = some b) : SeqAt.shaped d = true ∧ SeqAt.shaped (.list ds) = true ∧ (ds.any fun z => PyData.eqv z d) = b := by
  unfold memD at h
  split at h
  · rename_i i
    split at h
    · rename_i c hc
      cases h
      obtain ⟨h1, h2, h3⟩ := memI_ok hc
      refine ⟨rfl, ?_, h1⟩
      unfold SeqAt.shaped
      simp [PyData.canLay0, PyData.depth, h2, h3]
    · exact memG_ok h
  · exact memG_ok h
def rMem (K : PySem.W.Frag) (n : Bool) : R2 := fun x y H Q => ∃ d ds, L2.Dp K H x d ∧ (L2.Dp K H y (.list ds) ∨ L2.Dp K H y (.tuple ds)) ∧ SeqAt.shaped d = true ∧ SeqAt.shaped (.list ds) = true ∧ Q (.bl (if n then !(ds.any fun z => PyData.eqv z d) else ds.any fun z => PyData.eqv z d)) H
theorem sh_tup {ds : List D} (h : SeqAt.shaped (.list ds) = true) : SeqAt.shaped (.tuple ds) = true := by
  unfold SeqAt.shaped at h ⊢
  rw [Bool.and_eq_true, decide_eq_true_eq] at h ⊢
  simp only [PyData.canLay0, PyData.depth] at h ⊢
  exact h
theorem op_mem {X : Cx} (hu : X.A.units + 65 < cLine) : OpR X (compareOp .In) (rMem X.K false) := by
  intro pins s σ H x y v u Q I rx ry h
  obtain ⟨d, ds, hd, he, sd, se, q⟩ := h
  obtain ⟨as, r1⟩ := Dp.reads I d x v hd rx
  rcases he with he | he
  · obtain ⟨bs, r2⟩ := Dp.reads I (.list ds) y u he ry
    exact SeqAt.in_list_reads r2 r1 (SeqAt.canLay_of_shaped se) (SeqAt.canLay_of_shaped sd) (room_in_shaped sd hu) ⟨.bl _, H, I, rfl, q⟩
  · obtain ⟨bs, r2⟩ := Dp.reads I (.tuple ds) y u he ry
    exact SeqAt.in_tuple_reads r2 r1 (SeqAt.canLay_of_shaped se) (SeqAt.canLay_of_shaped sd) (room_in_shaped sd hu) ⟨.bl _, H, I, rfl, q⟩
theorem op_notMem {X : Cx} (hu : X.A.units + 65 < cLine) : OpR X (compareOp .NotIn) (rMem X.K true) := by
  intro pins s σ H x y v u Q I rx ry h
  obtain ⟨d, ds, hd, he, sd, se, q⟩ := h
  obtain ⟨as, r1⟩ := Dp.reads I d x v hd rx
  rcases he with he | he
  · obtain ⟨bs, r2⟩ := Dp.reads I (.list ds) y u he ry
    exact SeqAt.notIn_list_reads r2 r1 (SeqAt.canLay_of_shaped se) (SeqAt.canLay_of_shaped sd) (room_in_shaped sd hu) ⟨.bl _, H, I, rfl, q⟩
  · obtain ⟨bs, r2⟩ := Dp.reads I (.tuple ds) y u he ry
    exact SeqAt.notIn_tuple_reads r2 r1 (SeqAt.canLay_of_shaped se) (SeqAt.canLay_of_shaped sd) (room_in_shaped sd hu) ⟨.bl _, H, I, rfl, q⟩
def hIn (n : Bool) : D → D → Option PO
  | d, .list ds => (memD d ds).map fun b => .val (.bool (if n then !b else b))
  | d, .tuple ds => (memD d ds).map fun b => .val (.bool (if n then !b else b))
  | _, _ => none
theorem pr_in {K : PySem.W.Frag} {n : Bool} : Prim2 K (rMem K n) (hIn n) := by
  intro B H v w d e o Q bh hv hw he hq
  unfold hIn at he
  split at he
  · rename_i ds
    cases eb : memD d ds with
    | none =>
      rw [eb] at he
      cases he
    | some b =>
      rw [eb] at he
      cases he
      obtain ⟨h1, h2, h3⟩ := memD_ok eb
      exact ⟨d, ds, dp_l2 _ _ (hv.dp bh), .inl (dp_l2 _ _ (hw.dp bh)), h1, h2, by rw [h3]; exact hq _ (.bl _)⟩
  · rename_i ds
    cases eb : memD d ds with
    | none =>
      rw [eb] at he
      cases he
    | some b =>
      rw [eb] at he
      cases he
      obtain ⟨h1, h2, h3⟩ := memD_ok eb
      exact ⟨d, ds, dp_l2 _ _ (hv.dp bh), .inr (dp_l2 _ _ (hw.dp bh)), h1, h2, by rw [h3]; exact hq _ (.bl _)⟩
  · cases he

/-! ### [..] * n -/
theorem dps_rep {K : PySem.W.Frag} {B : Hp} {vs : List V} {ds : List D} (h : DpAll K B vs ds) : ∀ n, DpAll K B (List.replicate n vs).flatten (List.replicate n ds).flatten
  | 0 => .nil
  | n + 1 => by
    rw [List.replicate_succ, List.replicate_succ, List.flatten_cons, List.flatten_cons]
    exact dps_app h (dps_rep h n)
/-- a fresh list times an int -/
def fRep (f g : FE) : FE := fun s => (f s).bind fun r1 s1 => (g s1).bind fun r2 s2 => match r1, r2 with
  | .tmp xs, .imm (.int k) => if bnd62 k && decide (xs.length * k.toNat ≤ mx) then .ok (.tmp (List.replicate k.toNat xs).flatten) s2 else .no
  | _, _ => .no
section
variable {X : Cx} {p : Pr} {W : WX} {f g : FE} {a b : Expr} {pos : Pos}
theorem de_rep (ha : PE X a (tE p W f)) (hb : PE X b (tE p W g)) : PE X (.BinOp a .Mult b pos) (tE p W (fRep f g)) := PE.imp (pe_op op_rep ha hb) fun σ H Q h => by
  obtain ⟨B, s, ok, q⟩ := h
  refine ⟨B, s, ok, run_mono (run_bind q) fun r1 s1 B1 H1 x1 ok1 k v hv => ⟨B1, s1, ok1, run_mono (run_bind k) fun r2 s2 B2 H2 x2 ok2 k2 w hw => ?_⟩⟩
  split at k2
  · rename_i xs kk
    by_cases hz : (bnd62 kk && decide (xs.length * kk.toNat ≤ mx)) = true
    · rw [if_pos hz] at k2
      rw [Bool.and_eq_true, decide_eq_true_eq] at hz
      obtain ⟨h1, h2⟩ := bnd62_ok hz.1
      obtain ⟨l, vs, rfl, g1, g2, g3, g4, g5⟩ := hv.later x2
      cases hw
      refine ⟨l, kk, vs, rfl, rfl, g2, by omega, by omega, by rw [dps_len g4]; exact mx_le hz.2, fun q n => ?_⟩
      exact k2 B2 _ (.newH n) (ok2.newH n) _ ⟨q, _, rfl, x1.dom _ (x2.dom _ n), upd_same, ok2.bh.free n, dps_rep g4 _, ok2.notOwn n⟩
    · rw [if_neg hz] at k2
      exact k2.elim
  · exact k2.elim
end

/-! ### is True, is False -/
def hIsB : D → D → Option PO
  | .bool a, .bool b => some (.val (.bool (decide (a = b))))
  | _, _ => none
theorem pr_isB {K : PySem.W.Frag} : Prim2 K rIsB hIsB := by
  intro B H v w d e o Q bh hv hw he hq
  unfold hIsB at he
  split at he
  · cases he
    exact ⟨_, _, hv.bool, hw.bool, hq _ (.bl _)⟩
  · cases he

/-! ### sorted -/
def leD (a b : D) : Bool := !PySem.W.dataLt b a
def insD (x : D) : List D → List D
  | [] => [x]
  | y :: r => if leD x y then x :: y :: r else y :: insD x r
def sortD : List D → List D
  | [] => []
  | x :: r => insD x (sortD r)
theorem le_total : PySem.W.TotalLe leD := PySem.W.sortLe_total (PyProof.Rows.listOrd PyProof.Rows.itemOrd) false (fun b => PySem.W.keyToks b)
theorem ins_perm (x : D) : ∀ r : List D, (insD x r).Perm (x :: r)
  | [] => .refl _
  | y :: r => by
    unfold insD
    split
    · exact .refl _
    · exact (List.Perm.cons y (ins_perm x r)).trans (List.Perm.swap x y r)
theorem ins_sorted (x : D) : ∀ r : List D, r.Pairwise (fun a b => leD a b = true) → (insD x r).Pairwise (fun a b => leD a b = true)
  | [], _ => List.pairwise_singleton _ _
  | y :: r, h => by
    obtain ⟨h1, h2⟩ := List.pairwise_cons.mp h
    unfold insD
    split
    · rename_i c
      exact List.pairwise_cons.mpr ⟨fun z hz => by
        rcases List.mem_cons.mp hz with e | hz
        · rw [e]; exact c
        · exact le_total.trans _ _ _ c (h1 z hz), h⟩
    · rename_i c
      refine List.pairwise_cons.mpr ⟨fun z hz => ?_, ins_sorted x r h2⟩
      rcases List.mem_cons.mp ((ins_perm x r).mem_iff.mp hz) with e | hz
      · rw [e]
        exact (le_total.total x y).resolve_left c
      · exact h1 z hz
theorem sortD_sorted : ∀ r : List D, (sortD r).Pairwise (fun a b => leD a b = true)
  | [] => .nil
  | x :: r => ins_sorted x _ (sortD_sorted r)
theorem ins_filter (c x : D) : ∀ r : List D, r.Pairwise (fun a b => leD a b = true) → (insD x r).filter (PySem.W.sameRank leD c) = (x :: r).filter (PySem.W.sameRank leD c)
  | [], _ => rfl
  | y :: r, h => by
    obtain ⟨h1, h2⟩ := List.pairwise_cons.mp h
    unfold insD
    split
    · rfl
    · rename_i c1
      have ih := ins_filter c x r h2
      rw [List.filter_cons, ih]
      by_cases hx : PySem.W.sameRank leD c x = true
      · have hy : PySem.W.sameRank leD c y = false := by
          cases hy : PySem.W.sameRank leD c y with
          | false => rfl
          | true =>
            unfold PySem.W.sameRank at hx hy
            rw [Bool.and_eq_true] at hx hy
            exact absurd (le_total.trans _ _ _ hx.2 hy.1) c1
        rw [hy, List.filter_cons, List.filter_cons, List.filter_cons, if_pos hx, if_pos hx, hy]
        rfl
      · rw [List.filter_cons, if_neg hx, List.filter_cons, if_neg hx, List.filter_cons]
theorem sortD_filter (c : D) : ∀ r : List D, (sortD r).filter (PySem.W.sameRank leD c) = r.filter (PySem.W.sameRank leD c)
  | [] => rfl
  | x :: r => by
    show (insD x (sortD r)).filter _ = _
    rw [ins_filter c x _ (sortD_sorted r), List.filter_cons, List.filter_cons, sortD_filter c r]
theorem sortD_eq (r : List D) : sortD r = r.mergeSort (PySem.W.dataLe false id) := PySem.W.sort_unique le_total (sortD_sorted r) fun c => sortD_filter c r
end DL
end

set_option Elab.async false
set_option linter.all false
set_option maxRecDepth 100000
set_option maxHeartbeats 4000000
noncomputable section
namespace DL
open PySem PySem.Spec PyProof.Rows L2

/-! ### sorted, of lists and of tuples -/
section
variable {prog : Program} {w : World} {A : Around} {E : Value → Shared → Prop} {s : Shared} {l : Addr} {vs : List Value}
theorem collect_tup {Q : List Value → Shared → Prop} (hl : s.heap.IsTuple l vs.toArray) (hz : vs.length ≤ sizeLine)
    (h : Q vs { s with heap := (s.heap.push (seqObj "list" #[] 0)).update s.heap.objs.size (Obj.mapSeq (· ++ vs.toArray)) }) : wpAny (model prog w) A (collect (.ref l)) Q E s := by
  obtain ⟨o, ho, hc, n, hd⟩ := id hl
  have ho1 : (s.heap.push (seqObj "list" #[] 0)).get? l = some o := Heap.get?_push_of_some _ ho
  have hn : (s.heap.push (seqObj "list" #[] 0)).get? s.heap.objs.size = some (seqObj "list" #[] 0) := Heap.get?_push_size _ rfl
  have hcat : ((#[] : Array Value) ++ vs.toArray).size ≤ sizeLine + 1 := by
    simp only [Array.size_append, List.size_toArray, List.length_nil]
    omega
  unfold collect
  refine wpAny_bind (wpAny_runValue (codeAny_builtin entry_proto_collect' ?_))
  show wpAny _ _ (newList [] >>= fun r => again (.builtin "list.__iadd__" ⟨[r, .ref l], []⟩)) _ _ s
  refine wpAny_bind (wpAny_newList (wpAny_pure ⟨Code.quiet_builtin _ (by decide +kernel), codeAny_builtin entry_list_iadd' ?_⟩) (Nat.zero_le _))
  show wpAny _ _ (Builtin.List.listExtendWith (.ref s.heap.objs.size) (.ref l) (.ref s.heap.objs.size)) _ _ { s with heap := s.heap.push (seqObj "list" #[] 0) }
  unfold Builtin.List.listExtendWith
  refine wpAny_bind (wpAny_typeOf (T := "tuple") ⟨o, ho1, hc⟩ ?_)
  have ht : (Value.type "tuple" == Value.type "tuple") = true := by rfl
  rw [if_pos (by rw [ht]; simp)]
  refine wpAny_bind (listItems_at ho1 hd (wpAny_bind (listItems_at (xs := #[]) (n := 0) hn rfl ?_)))
  rw [if_neg (by simp)]
  refine wpAny_bind (listUpdate_at (xs := #[]) (n := 0) hn rfl (wpAny_pure ?_) (Nat.zero_le _) hcat)
  refine wpAny_bind (wpAny_load (get?_update_seq hn _) ?_)
  have e1 : ((#[] : Array Value) ++ vs.toArray).toList = vs := by simp
  show wpAny _ _ (pure ((#[] : Array Value) ++ vs.toArray).toList) Q E _
  rw [e1]
  exact wpAny_pure h
theorem sorted_tup {β : Type} {bs : List β} {enc : β → PyData} {R : Value → β → Prop} {Q : Value → Shared → Prop} (hl : s.heap.IsTuple l vs.toArray) (e : PySem.W.EachIs R vs bs) (er : PySem.W.EachIs (fun v b => ∃ as, Reads s.heap v (enc b) as) vs bs)
    (hal : PySem.W.AllAlike (bs.map enc)) (hk : PySem.W.Sortable (bs.map enc)) (hL : bs.length ≤ sizeLine) (hu : ∀ b, b ∈ bs → A.units + 2 + (enc b).depth < cLine)
    (h : ∀ out, PySem.W.EachIs R out (bs.mergeSort (PySem.W.dataLe false enc)) → Q (.ref (s.heap.objs.size + 1)) { s with heap := sortedAll s.heap vs (List.toArray out) }) : wpAny (model prog w) A (call (.builtin "sorted") [.ref l]) Q E s := by
  have er' : PySem.W.EachIs (fun v b => ∃ as, Reads (PySem.W.sortingHeap (PySem.W.copyHeap s.heap vs) (s.heap.objs.size + 1) vs) v (enc b) as) vs bs := er.mono fun _ _ ⟨as, r⟩ => ⟨as, PyProof.Rows.Reads.keeps (fun _ _ => PySem.W.sorting_copy_old) r⟩
  have hV : vs.length ≤ sizeLine := by rw [e.length]; exact hL
  refine Calls.call_function_entry kind_sorted plain_sorted entry_sorted (args_sorted1 _) ?_
  unfold Builtin.«sorted»
  refine wpAny_bind (m := checkCount "sorted" 1 1 _) (wpAny_pure ?_)
  refine wpAny_bind (collect_tup hl hV (wpAny_bind (wpAny_newList ?_ hV)))
  have hz : ((s.heap.push (seqObj "list" #[] 0)).update s.heap.objs.size (Obj.mapSeq (· ++ vs.toArray))).objs.size = s.heap.objs.size + 1 := (Heap.size_update ..).trans (size_push' ..)
  show wpAny _ _ _ _ _ { s with heap := PySem.W.copyHeap s.heap vs }
  rw [hz]
  refine wpAny_bind (wpAny_holding (wpAny_call_entry slot_list_sort ⟨_, PySem.W.copyHeap_at s.heap vs, rfl⟩ entry_list_sort
    (PySem.W.list_sort_vals (s := { s with heap := PySem.W.copyHeap s.heap vs }) (PySem.W.copyHeap_at s.heap vs) (PySem.W.SortsAt.data (s := { s with heap := PySem.W.sortingHeap (PySem.W.copyHeap s.heap vs) (s.heap.objs.size + 1) vs })
      (PySem.W.each_map (R := fun v d => ∃ as, Reads (PySem.W.sortingHeap (PySem.W.copyHeap s.heap vs) (s.heap.objs.size + 1) vs) v d as) enc er') hal hk (PySem.W.bound_map hu)) hV ⟨_, rfl, ?_⟩) (args_list_sort _)))
  exact wpAny_pure ⟨_, rfl, h _ (PySem.W.sortVals_data false e er' hal)⟩
end
def alikeB (ds : List D) : Bool := ds.all fun d => ds.all fun e => PySem.W.alike d e
def isTupC : D → Bool
  | .tuple (_ :: _) => true
  | _ => false
def isOth : D → Bool
  | .none => false
  | .tuple _ => false
  | _ => true
def okS (ds : List D) : Bool := alikeB ds && (ds.all isTupC || ds.all isOth) && ds.all (fun d => decide (d.depth ≤ 60)) && decide (ds.length ≤ mx)
theorem okS_ok {ds : List D} (h : okS ds = true) : PySem.W.AllAlike (ds.map id) ∧ PySem.W.Sortable (ds.map id) ∧ (∀ d ∈ ds, d.depth ≤ 60) ∧ ds.length ≤ sizeLine := by
  unfold okS at h
  rw [Bool.and_eq_true, Bool.and_eq_true, Bool.and_eq_true, decide_eq_true_eq, Bool.or_eq_true] at h
  obtain ⟨⟨⟨h1, h2⟩, h3⟩, h4⟩ := h
  rw [List.map_id]
  refine ⟨fun d hd e he => List.all_eq_true.mp (List.all_eq_true.mp h1 d hd) e he, ?_, fun d hd => of_decide_eq_true (List.all_eq_true.mp h3 d hd), mx_le h4⟩
  rcases h2 with h2 | h2
  · refine .inl fun d hd => ?_
    have z := List.all_eq_true.mp h2 d hd
    unfold isTupC at z
    split at z
    · exact ⟨_, _, rfl⟩
    · cases z
  · refine .inr fun d hd => ?_
    have z := List.all_eq_true.mp h2 d hd
    unfold isOth at z
    split at z
    · cases z
    · cases z
    · rename_i n1 n2
      exact ⟨n1, fun xs e => n2 xs e⟩
def hSorted : List D → Option PO
  | [.list ds] => if okS ds then some (.lst (sortD ds)) else none
  | [.tuple ds] => if okS ds then some (.lst (sortD ds)) else none
  | _ => none
def rSortD (K : PySem.W.Frag) : List V → Hp → VK → Prop := fun xs H Q => ∃ (a : Addr) (ws : List V) (B : Hp) (ds : List D), xs = [.ref a] ∧ (SqL K H a ws ∨ SqT K H a ws) ∧ Same B H ∧ DpAll K B ws ds ∧ okS ds = true ∧
  ∀ p ys, H p = none → DpAll K B ys (sortD ds) → Q (.ref p) (upd H p (.lst ys))
theorem each_of {K : PySem.W.Frag} {B : Hp} : ∀ {ws : List V} {us : List Value} {ds : List D}, Vals ws us → DpAll K B ws ds → PySem.W.EachIs (fun v d => ∃ x, RelV x v ∧ Dp K B x d) us ds
  | _, _, _, .nil, .nil => .nil
  | _, _, _, .cons r t, .cons d e => .cons ⟨_, r, d⟩ (each_of t e)
theorem of_each {K : PySem.W.Frag} {B : Hp} : ∀ {us : List Value} {ds : List D}, PySem.W.EachIs (fun v d => ∃ x, RelV x v ∧ Dp K B x d) us ds → ∃ ws, Vals ws us ∧ DpAll K B ws ds
  | _, _, .nil => ⟨[], .nil, .nil⟩
  | _, _, .cons ⟨x, r, d⟩ t => by
    obtain ⟨ws, h1, h2⟩ := of_each t
    exact ⟨x :: ws, .cons r h1, .cons d h2⟩
theorem cr_sortD {X : Cx} (hu : X.A.units + 64 < cLine) : CallR X (.builtin "sorted") (rSortD X.K) := by
  intro pins s σ H xs us Q I r h
  obtain ⟨a, ws, B, ds, rfl, hs, bh, hd, ok, q⟩ := h
  rw [Vals.ref1 r]
  obtain ⟨k1, k2, k3, k4⟩ := okS_ok ok
  have main : ∀ {its : List Value} (out : List Value), Vals ws its → PySem.W.EachIs (fun v d => ∃ x, RelV x v ∧ Dp X.K B x d) out (ds.mergeSort (PySem.W.dataLe false id)) →
      EP X pins σ Q (.ref (s.heap.objs.size + 1)) { s with heap := sortedAll s.heap its (List.toArray out) } := fun {its} out rv eo => by
    obtain ⟨ys, h1, h2⟩ := of_each eo
    rw [← sortD_eq] at h2
    obtain ⟨ep, he'⟩ := PyProof.Rows.sortedAll_at s.heap its out.toArray
    have hlen : ys.length ≤ sizeLine := by
      rw [dps_len h2, sortD_eq, List.length_mergeSort]
      exact k4
    exact ⟨.ref _, upd H (s.heap.objs.size + 1) (.lst ys), I.laid (t' := s.toks) (fun _ _ => PyProof.Rows.sortedAll_old) (Nat.le_succ _) ⟨hlen, out, ep, h1, he'⟩, rfl, q _ _ (I.hok.fresh (Nat.le_succ _)) h2⟩
  have reads : ∀ {its : List Value}, Vals ws its → PySem.W.EachIs (fun v d => ∃ as, Reads s.heap v (id d) as) its ds := fun {its} rv => (each_of rv hd).mono fun v d ⟨x, rx, dx⟩ => Dp.reads I d x v (dp_l2 _ _ (dp_same bh _ _ dx)) rx
  have dep : ∀ b, b ∈ ds → X.A.units + 2 + (id b).depth < cLine := fun b hb => by
    have := k3 b hb
    show X.A.units + 2 + b.depth < cLine
    omega
  rcases hs with hs | hs
  · obtain ⟨its, rv, hl, hz⟩ := I.list hs
    exact PySem.W.sorted_data hl.isList (each_of rv hd) (reads rv) k1 k2 k4 dep fun out _ eo => main out rv eo
  · obtain ⟨its, rv, hl, hz⟩ := I.tuple hs
    exact sorted_tup hl (each_of rv hd) (reads rv) k1 k2 k4 dep fun out eo => main out rv eo
theorem pr_sorted {K : PySem.W.Frag} : PrimOk K (rSortD K) hSorted := by
  intro B H vs ds o Q bh hv he hq
  unfold hSorted at he
  split at he
  · split at he
    · rename_i ok
      cases he
      obtain ⟨v, rfl, h⟩ := vs1 hv
      obtain ⟨a, ws, rfl, h1, h2⟩ := h.list bh
      exact ⟨a, ws, B, _, rfl, .inl h1, bh, h2, ok, fun p ys n d => hq p ys n d⟩
    · cases he
  · split at he
    · rename_i ok
      cases he
      obtain ⟨v, rfl, h⟩ := vs1 hv
      obtain ⟨a, ws, rfl, h1, h2⟩ := h.tup bh
      exact ⟨a, ws, B, _, rfl, .inr h1, bh, h2, ok, fun p ys n d => hq p ys n d⟩
    · cases he
  · cases he
end DL
end

set_option Elab.async false
set_option linter.all false
set_option maxRecDepth 100000
set_option maxHeartbeats 4000000
noncomputable section
namespace DL
open PySem PySem.Spec PyProof.Rows L2

/-! ### set(a list of ints), sorted of it -/
section
variable {P : Program} {w : World} {A : Around} {E : Value → Shared → Prop} {s : Shared}
/-- the set object as it is born -/
abbrev bare (w : World) : Obj := { cls := .type "set", dict := none, data := .set #[] 0 (.fresh 0 0 (!w.params.followText "set-order")) }
set_option maxHeartbeats 8000000 in
theorem set_of_list {l : Addr} {its : Array Value} (ns : List Int) {Q : Value → Shared → Prop} (hh : A.handled = none) (hl : s.heap.IsList l its) (hi : IntsAre its.toList ns) (hb : ns.length + 1 < scanBound)
    (h : ∀ (h' : Heap) (tk c : Nat), SetR w h' s.heap.objs.size (fun j => decide (j ∈ ns)) c → c ≤ ns.length → (∀ b o, s.heap.get? b = some o → h'.get? b = some o) → Q (.ref s.heap.objs.size) { s with heap := h', toks := tk }) :
    wpAny (model P w) A (call (.type "set") [.ref l]) Q E s := by
  have eN : its.size = ns.length := (Array.length_toList).symm.trans (IntsAre.length hi)
  obtain ⟨cc, tl, hmro⟩ := F.called_set.mro
  have f1 := F.called_set.made
  have f2 := F.called_set.sub
  have f3 := F.called_set.notType
  have f4 := F.called_set.canCreate
  have f5 := F.typeCall_set_1 (.ref l)
  refine wpAny_call (codeAny_of_tree ?_)
  show wpAny _ _ (callAny (.type "set") _) _ _ _
  refine wpAny_pure ⟨Code.quiet_builtin _ (by decide +kernel), codeAny_builtin F.entry_type_call ?_⟩
  rw [Around.under_plain (weight_type_call_type "set" [.ref l] []) rfl]
  repeat (any_goals (first | assumption | wp_step))
  refine codeAny_mono (code_set_led1 (.ref l) (E := E) (Q₁ := fun ob s1 => ob = .ref s.heap.objs.size ∧ s1 = { s with heap := s.heap.push (bare w) }) ⟨rfl, rfl⟩) fun r s1 hr => ?_
  cases r with
  | error e => exact hr
  | ok fl =>
    cases fl with
    | ret ob =>
      obtain ⟨rfl, rfl⟩ := hr
      have gS : (s.heap.push (bare w)).get? s.heap.objs.size = some (bare w) := Heap.get?_push_size _ rfl
      have gT : Shared.TypeIs { s with heap := s.heap.push (bare w) } (.ref s.heap.objs.size) "set" := ⟨_, gS, rfl⟩
      have f6 := F.called_set.init.lookup
      have f7 := F.called_set.init.bind (.ref s.heap.objs.size)
      repeat (any_goals (first | assumption | wp_step))
      refine codeAny_mono (codeAny_call_builtin (R := wants (fun r s2 => r = .none ∧ ∃ h' tk c, s2 = { s with heap := h', toks := tk } ∧ SetR w h' s.heap.objs.size (fun j => decide (j ∈ ns)) c ∧ c ≤ ns.length ∧
          (∀ b o, s.heap.get? b = some o → h'.get? b = some o)) E) F.called_set.init.plain F.entry_set_init (check_set_init_1 gT ?_)) fun r2 s2 hr2 => ?_
      · obtain ⟨ol, hol, hcl, nl, hdl⟩ := hl
        obtain ⟨oc, od, oda, osl⟩ := ol
        simp only at hcl hdl
        subst hcl; subst hdl
        have g1 : (s.heap.push (bare w)).get? l = some { cls := .type "list", dict := od, data := .seq its nl, slots := osl } := Heap.get?_push_of_some _ hol
        have f8 := F.sub_list_set
        have f9 := F.sub_list_frozenset
        have f10 : (Value.type "list" == Value.type "dict") = false := by decide
        have g2 : (s.heap.push (bare w)).IsList l its := ⟨_, g1, rfl, nl, rfl⟩
        unfold Builtin.«set.__init__» noKeywords Builtin.Frozenset.updateFrom
        generalize hPI : pyIter = PI
        wp_walk
        subst hPI
        refine wpAny_pyIter_list g2 (wpAny_bind (wpAny_runValue ?_))
        have lt : l < s.heap.objs.size := Heap.lt_size hol
        have hd3 : A.in1.in1.in1.handled = none := by simp [hh]
        have z1 : (s.heap.push (bare w)).objs.size = s.heap.objs.size + 1 := Heap.size_push ..
        have nI : l ≠ (s.heap.push (bare w)).objs.size := by
          rw [z1]
          exact Nat.ne_of_lt (Nat.lt_succ_of_lt lt)
        have nS : s.heap.objs.size ∉ [(s.heap.push (bare w)).objs.size, l] := by
          rw [z1]
          simp only [List.mem_cons, List.mem_singleton, List.not_mem_nil, or_false, not_or]
          exact ⟨Nat.ne_of_lt (Nat.lt_succ_self _), Nat.ne_of_gt lt⟩
        have vals : ∀ (i : Nat) (v : Value), its[i]? = some v → ∃ k t, ns[i]? = some k ∧ v = .int k t := fun i v hv => by
          have hlt : i < ns.length := by rw [← eN]; exact (Array.getElem?_eq_some_iff.mp hv).1
          obtain ⟨t, e⟩ := PyProof.Rows.IntsAre.int_at hi i v (by rw [Array.getElem?_toList]; exact hv)
          rw [List.getD_eq_getElem?_getD, List.getElem?_eq_getElem hlt] at e
          exact ⟨_, t, List.getElem?_eq_getElem hlt, e⟩
        refine set_update_ints ((Walks.list hd3 _ l nI its).toS) s.heap.objs.size nS ns eN hb vals (its.size - 0) 0 _ (by omega) (Nat.zero_le _) ⟨⟨_, Heap.get?_push_size _ rfl, rfl, rfl⟩, (g2.push _)⟩ ?start ?fin
        case start => exact ⟨0, Nat.le_refl 0, setR_new_at (Heap.get?_push_of_some _ gS)⟩
        case fin =>
          intro s' c' hm hc' hS'
          obtain ⟨h', g', d', tk', os'⟩ := s'
          obtain rfl : g' = s.gens := hm.gens
          obtain rfl : d' = s.drawn := hm.drawn
          obtain rfl : os' = s.os := hm.os
          rw [eN] at hc'
          show wpAny _ _ _ _ _ _
          refine wpAny_pure ?_
          show wpAny _ _ (ret Value.none) _ _ _
          refine wpAny_pure ⟨rfl, h', tk', c', rfl, hS', hc', fun b o e => ?_⟩
          have b0 : b < s.heap.objs.size := Heap.lt_size e
          exact hm.heap b o (by
            simp only [List.mem_cons, List.mem_singleton, List.not_mem_nil, or_false, not_or]
            exact ⟨Nat.ne_of_lt b0, by rw [z1]; exact Nat.ne_of_lt (Nat.lt_succ_of_lt b0)⟩) (Heap.get?_push_of_some _ (Heap.get?_push_of_some _ e))
      · cases r2 with
        | error e => exact hr2
        | ok f2' =>
          cases f2' with
          | ret r =>
            obtain ⟨rfl, h', tk, c', rfl, hS', hc', hk'⟩ := hr2
            repeat (any_goals (first | assumption | wp_step))
            exact h _ _ _ hS' hc' hk'
          | _ => exact hr2.elim
    | _ => exact hr.elim
end
/-- set(xs), xs a list of ints: a set that nothing else sees -/
def rSetL (K : PySem.W.Frag) (w : World) : List V → Hp → VK → Prop := fun xs H Q => ∃ (a : Addr) (ns : List Int), xs = [.ref a] ∧ SqL K H a (ns.map V.int) ∧ ns.length < 60 ∧
  ∀ (p : Addr) (c : Nat), H p = none → c ≤ ns.length → Q (.ref p) (upd H p (SetO w p (fun j => decide (j ∈ ns)) c))
theorem call_setL {X : Cx} (hc : X.calm = true) : CallR X (.type "set") (rSetL X.K X.w) := by
  intro pins s σ H xs us Q I r h
  obtain ⟨a, ns, rfl, hs, hn, q⟩ := h
  rw [Vals.ref1 r]
  obtain ⟨its, rv, hl, hz⟩ := I.list hs
  have hi : IntsAre its.toArray.toList ns := ints_of_vals rv
  refine set_of_list ns (I.ok.hd hc) hl.isList hi (by unfold scanBound; omega) fun h' tk c R hcn k => ?_
  exact ⟨.ref _, upd H s.heap.objs.size (SetO X.w s.heap.objs.size (fun j => decide (j ∈ ns)) c), I.laid (t' := tk) k (Nat.le_refl _) (setO_new R), rfl, q _ c (I.hok.fresh (Nat.le_refl _)) hcn⟩

/-- the ints, sorted, each once -/
def insI (x : Int) : List Int → List Int
  | [] => [x]
  | y :: r => if x < y then x :: y :: r else if x = y then y :: r else y :: insI x r
def setI : List Int → List Int
  | [] => []
  | x :: r => insI x (setI r)
theorem insI_mem (x k : Int) : ∀ r : List Int, k ∈ insI x r ↔ k = x ∨ k ∈ r
  | [] => by simp [insI]
  | y :: r => by
    unfold insI
    split
    · simp
    · split
      · rename_i e
        subst e
        simp
      · rw [List.mem_cons, insI_mem x k r, List.mem_cons]
        constructor
        · rintro (h | h | h)
          · exact .inr (.inl h)
          · exact .inl h
          · exact .inr (.inr h)
        · rintro (h | h | h)
          · exact .inr (.inl h)
          · exact .inl h
          · exact .inr (.inr h)
theorem insI_pw (x : Int) : ∀ r : List Int, r.Pairwise (· < ·) → (insI x r).Pairwise (· < ·)
  | [], _ => List.pairwise_singleton _ _
  | y :: r, h => by
    obtain ⟨h1, h2⟩ := List.pairwise_cons.mp h
    unfold insI
    split
    · rename_i c
      refine List.pairwise_cons.mpr ⟨fun z hz => ?_, h⟩
      rcases List.mem_cons.mp hz with e | hz
      · rw [e]; exact c
      · exact Int.lt_trans c (h1 z hz)
    · split
      · exact h
      · rename_i c1 c2
        refine List.pairwise_cons.mpr ⟨fun z hz => ?_, insI_pw x r h2⟩
        rcases (insI_mem x z r).mp hz with e | hz
        · rw [e]; omega
        · exact h1 z hz
theorem setI_mem (k : Int) : ∀ r : List Int, k ∈ setI r ↔ k ∈ r
  | [] => by simp [setI]
  | x :: r => by
    show k ∈ insI x (setI r) ↔ _
    rw [insI_mem, setI_mem k r, List.mem_cons]
theorem setI_pw : ∀ r : List Int, (setI r).Pairwise (· < ·)
  | [] => .nil
  | x :: r => insI_pw x _ (setI_pw r)
theorem pw_unique : ∀ {l m : List Int}, l.Pairwise (· < ·) → m.Pairwise (· < ·) → (∀ k, k ∈ l ↔ k ∈ m) → l = m
  | [], [], _, _, _ => rfl
  | [], y :: m, _, _, h => absurd ((h y).mpr List.mem_cons_self) (by simp)
  | x :: l, [], _, _, h => absurd ((h x).mp List.mem_cons_self) (by simp)
  | x :: l, y :: m, hl, hm, h => by
    obtain ⟨a1, a2⟩ := List.pairwise_cons.mp hl
    obtain ⟨b1, b2⟩ := List.pairwise_cons.mp hm
    have e : x = y := by
      rcases List.mem_cons.mp ((h x).mp List.mem_cons_self) with e | hx
      · exact e
      · rcases List.mem_cons.mp ((h y).mpr List.mem_cons_self) with e | hy
        · exact e.symm
        · have := a1 y hy
          have := b1 x hx
          omega
    subst e
    rw [pw_unique a2 b2 fun k => ⟨fun hk => by
      rcases List.mem_cons.mp ((h k).mp (List.mem_cons_of_mem _ hk)) with e | z
      · have := a1 k hk
        omega
      · exact z, fun hk => by
      rcases List.mem_cons.mp ((h k).mpr (List.mem_cons_of_mem _ hk)) with e | z
      · have := b1 k hk
        omega
      · exact z⟩]
/-- sorted(set(e)), e a list of ints, fewer than 60 -/
def fSortSet (f : FA) : FE := fun s => (f s).bind fun rs s1 => match views s1 rs with
  | some [.list xs] => (match asInts xs with
    | some ns => if ns.length < 60 then .ok (.tmp ((setI ns).map PyData.int)) s1 else .no
    | none => .no)
  | _ => .no
theorem dps_ints {K : PySem.W.Frag} {B : Hp} : ∀ ns : List Int, DpAll K B (ns.map V.int) (ns.map PyData.int)
  | [] => .nil
  | n :: ns => .cons (.int n) (dps_ints ns)
section
variable {X : Cx} {p : Pr} {W : WX} {fa : FA} {e : Expr} {pos pos2 p1 p2 : Pos}
theorem de_sortSet (hc : X.calm = true) (hg : Gl X "sorted") (hm : X.mg "sorted" = none) (hg2 : Gl X "set") (hm2 : X.mg "set" = none) (ha : PA X [e] (tA p W fa)) (eK : p.K = X.K := by rfl)
    (h1 : starEach [e] X.env = [(false, eval e X.env)] := by rfl) (h2 : (backTo pos2 (starEach [] X.env)).any (·.1) = false := by rfl)
    (h3 : starEach [Expr.Call (.Name "set" p2) [e] [] pos2] X.env = (false, eval (Expr.Call (.Name "set" p2) [e] [] pos2) X.env) :: starEach [] X.env := by rfl) (h4 : (backTo pos (starEach [] X.env)).any (·.1) = false := by rfl) :
    PE X (.Call (.Name "sorted" p1) [.Call (.Name "set" p2) [e] [] pos2] [] pos) (tE p W (fSortSet fa)) :=
  PE.imp (pe_callB (cr_sortedSet hc) hg hm PyProof.Rows.boot_sorted (pa_cons (pe_callTy (call_setL hc) hg2 hm2 PyProof.Rows.boot_set ha (by decide) (by decide) h1 h2) pa_nil h3) (by decide) (by decide) h3 h4) fun σ H Q h => by
  obtain ⟨B, s, ok, q⟩ := h
  refine ⟨B, s, ok, run_mono (run_bind q) fun rs s1 B1 H1 x1 ok1 k vs hv => ?_⟩
  split at k
  · rename_i xs ev
    split at k
    · rename_i ns en
      by_cases hn : ns.length < 60
      · rw [if_pos hn] at k
        obtain ⟨v, rfl, h⟩ := vs1 (vws_of ok1 hv ev)
        obtain ⟨a, ws, rfl, g1, g2⟩ := h.list ok1.bh
        have ew := asInts_vs g2 en
        subst ew
        refine ⟨a, ns, rfl, (by rw [← eK]; exact g1), hn, fun p1 c n hcn => ⟨p1, _, c, rfl, upd_same, by omega, fun ms q hp hm hl n2 => ?_⟩⟩
        have em : ms = setI ns := pw_unique hp (setI_pw ns) fun k => by rw [hm, setI_mem, decide_eq_true_eq]
        subst em
        have n1 := n
        have n3 : H1 q = none := upd_none n2
        have okS := ok1.newH (o := SetO X.w p1 (fun j => decide (j ∈ ns)) c) n1
        have x2 : Ext σ s1 s1 B1 H1 B1 (upd (upd H1 p1 (SetO X.w p1 (fun j => decide (j ∈ ns)) c)) q (.lst ((setI ns).map V.int))) := (Ext.newH n1).trans (.newH n2)
        exact k B1 _ x2 (okS.newH n2) _ ⟨q, _, rfl, x1.dom _ n3, upd_same, ok1.bh.free n3, dps_ints _, okS.notOwn n2⟩
      · rw [if_neg hn] at k
        exact k.elim
    · exact k.elim
  · exact k.elim
end
end DL
end

set_option Elab.async false
set_option linter.all false
set_option maxRecDepth 100000
set_option maxHeartbeats 4000000
noncomputable section
namespace DL
open PySem PySem.Spec PyProof.Rows L2

/-! ### enumerate(a tuple) -/
set_option maxHeartbeats 8000000 in
theorem enum_new1 {v : Value} {o : Obj} {Hh : Heap → Prop} (Bg : Begins v o Hh) :
    Meets (Builtin.«enumerate.__new__» ⟨[.type "enumerate", v], []⟩) (fun _ R s => Hh s.heap ∧
      R (.ok (.ret (.ref (s.heap.push o).objs.size))) { s with heap := (s.heap.push o).push { cls := .type "enumerate", data := .fields #[.none, .bool false, .ref s.heap.objs.size, rawInt 0, .none, .none] } }) :=
  .of_wp fun prog w A R s h => by
    obtain ⟨hp, g, d, tk, os⟩ := s
    obtain ⟨h1, h⟩ := h
    have hsub := sub_enumerate
    have q1 : ∀ {A' : Around} {E : Value → Shared → Prop} {Q : Value → Shared → Prop}, Q (.ref hp.objs.size) ⟨hp.push o, g, d, tk, os⟩ → wpAny (model prog w) A' (pyIter v) Q E ⟨hp, g, d, tk, os⟩ :=
      fun q => Bg.iter prog w _ _ ⟨hp, g, d, tk, os⟩ _ h1 q
    wp_walk using q1
    refine wpAny_stack_any fun st => wpAny_pure ?_
    split
    · rename_i c _ _ _ _ _
      cases (c == Value.type "enumerate") <;> (wp_walk using q1; exact ⟨_, rfl, h⟩)
    · wp_walk using q1
      exact ⟨_, rfl, h⟩
section
variable {prog : Program} {w : World} {A : Around} {E : Value → Shared → Prop} {s : Shared}
theorem call_enum1 {v : Value} {o : Obj} {Hh : Heap → Prop} {Q : Value → Shared → Prop} (Bg : Begins v o Hh) (h1 : Hh s.heap)
    (h : ∀ h', IsEnum h' (s.heap.objs.size + 1) s.heap.objs.size 0 .none → h'.get? s.heap.objs.size = some o → (∀ b o, s.heap.get? b = some o → h'.get? b = some o) → Q (.ref (s.heap.objs.size + 1)) { s with heap := h' }) :
    wpAny (model prog w) A (call (.type "enumerate") [v]) Q E s := by
  refine callType_new F.called_enumerate (by decide) (F.typeCall_enumerate_1 _) (F.newCall_enumerate_1 _) (fun obj => F.args_object_init_2 obj _) F.entry_enumerate_new (enum_new1 Bg) ⟨h1, ?_⟩
  have hz : (s.heap.push o).objs.size = s.heap.objs.size + 1 := Heap.size_push ..
  show _ ∧ _
  rw [hz]
  have he : IsEnum ((s.heap.push o).push { cls := .type "enumerate", data := .fields #[.none, .bool false, .ref s.heap.objs.size, rawInt 0, .none, .none] }) (s.heap.objs.size + 1) s.heap.objs.size 0 .none := by
    have q := Heap.get?_push_size (s.heap.push o) (o := { cls := .type "enumerate", data := .fields #[.none, .bool false, .ref s.heap.objs.size, rawInt 0, .none, .none] }) rfl
    rw [hz] at q
    exact q
  exact ⟨⟨_, he, rfl⟩, h _ he (Heap.get?_push_of_some _ (Heap.get?_push_size _ Bg.free)) fun b o x => Heap.get?_push_of_some _ (Heap.get?_push_of_some _ x)⟩
end
/-- the tuple at a as it stands, each item in a new pair -/
def IteT (K : PySem.W.Frag) (a : Addr) : It :=
  ⟨fun i H => ∃ (xs : List V) (x : V), SqT K H a xs ∧ xs[i]? = some x, fun i H v H' => ∃ T x, v = .ref T ∧ H T = none ∧ H' = upd H T (.tup [.int (i : Nat), x]) ∧ ∀ xs, SqT K H a xs → xs[i]? = some x, fun i H => ∃ xs : List V, SqT K H a xs ∧ xs.length = i⟩
theorem turn_enumT {P : Program} {w : World} {K : PySem.W.Frag} {elts : List Expr} {kk : Nat} {tpos : Pos} (a e it : Addr) (ha : a ≠ it) (ha2 : a ≠ e) (hne : e ≠ it) :
    Turn P w K (.Tuple elts kk tpos) (IteT K a) [e, it] e (fun i h => (∃ old, IsEnum h e it ((i : Nat) : Int) old) ∧ h.IsTupleIter it a i) where
  mem := by simp
  obj := fun i h st b hb => by
    obtain ⟨⟨old, he⟩, o, ho, hc, hd⟩ := st
    rcases List.mem_cons.mp hb with z | z
    · rw [z]; exact ⟨_, he, fun v q => nomatch q⟩
    · rw [List.mem_singleton.mp z]; exact ⟨o, ho, fun v q => by rw [hd] at q; cases q⟩
  keep := fun i h h' st k => ⟨⟨st.1.choose, k e (by simp) _ st.1.choose_spec⟩, st.2.at fun o q => k it (by simp) o q⟩
  item := by
    intro X hP hw hK hc i pins s σ H E I hf st hg
    subst hP hw hK
    obtain ⟨⟨old, he⟩, hit⟩ := st
    obtain ⟨xs, x, hq, hx⟩ := hg
    obtain ⟨its, rv, p, hz⟩ := I.tuple hq
    obtain ⟨u, hu, ru⟩ := rv.get hx
    have hel : e < s.heap.objs.size := Heap.lt_size he
    have hil : it < s.heap.objs.size := by obtain ⟨_, q, _⟩ := hit; exact Heap.lt_size q
    have hlt : i < its.toArray.size := by simpa using (List.getElem?_eq_some_iff.mp hu).1
    refine wpAny_pyNext_enum_itemC (Draws.tuple (show X.A.in1.handled = none from I.ok.hd hc) it a ha its.toArray) he ⟨hit, p⟩ hlt hne (by simp [hne, ha2.symm]) fun x' h' tk hpx ho hst hT hsz hk => ?_
    have ex : x' = u := by
      have hpx' : its[i]? = some x' := by simpa using hpx
      rw [hu] at hpx'
      exact (Option.some.inj hpx').symm
    subst ex
    refine ⟨_, rfl, wpAny_letOwnedTupleGo_enum (s := { s with heap := h', toks := tk + 1 }) ho fun h'' he' sb => ?_⟩
    have hT2 : h''.get? s.heap.objs.size = some { cls := .type "tuple", data := .seq #[.int i tk, x'] } := (sb.2 _ (Nat.ne_of_gt hel)).trans hT
    have new : ObjOk X.prog X.w (upd H s.heap.objs.size (.tup [.int (i : Nat), x])) h'' s.heap.objs.size (.tup [.int (i : Nat), x]) :=
      ⟨by show 2 ≤ sizeLine; decide, [.int i tk, x'], .cons ⟨_, rfl⟩ (.cons ru .nil), ⟨_, hT2, rfl, _, rfl⟩⟩
    have I1 : Inv X pins σ (upd H s.heap.objs.size (.tup [.int (i : Nat), x])) { s with heap := h'', toks := tk + 1 } :=
      I.turnedNew (ch := [e, it]) (fun b ob hb q => (sb.2 b (fun z => hb (by simp [z]))).trans (hk b ob (fun z => hb (by simp [z])) (fun z => hb (by simp [z])) q)) hf (Nat.le_refl _) new
    refine ⟨.ref s.heap.objs.size, _, I1, rfl, ⟨_, x, rfl, I.hok.fresh (Nat.le_refl _), rfl, fun ys hy => by rw [I.tuple_inj hy hq]; exact hx⟩, ⟨⟨x', ?_⟩, hst.1.at fun o q => (sb.2 it (Ne.symm hne)).trans q⟩, fun b hb => ?_⟩
    · have e1 : ((i + 1 : Nat) : Int) = (i : Int) + 1 := by omega
      rw [e1]
      exact he'
    · have hb' : b < s.heap.objs.size := by
        rcases List.mem_cons.mp hb with z | z
        · rw [z]; exact hel
        · rw [List.mem_singleton.mp z]; exact hil
      rw [upd_ne (Nat.ne_of_lt hb')]
      exact (hf b hb).1
  done := by
    intro X hP hw hK hc i pins s σ H E I hf st hg
    subst hP hw hK
    obtain ⟨⟨old, he⟩, hit⟩ := st
    obtain ⟨xs, hq, hx⟩ := hg
    obtain ⟨its, rv, p, hz⟩ := I.tuple hq
    obtain ⟨f0, f1, f2, f3, f4, f5⟩ := hf it (by simp)
    have hl := rv.length
    have e2 : its.toArray.size = i := by
      rw [List.size_toArray]
      omega
    subst e2
    exact wpAny_pyNext_enum_endD (Draws.tuple (show X.A.in1.handled = none from I.ok.hd hc) it a ha its.toArray) he ⟨hit, p⟩ fun h' eb => ⟨rfl, I.turned (t' := s.toks) (fun b o hb q => eb b o hb q) f0 f1 f3 f4 f5⟩
  self := fun A i s Q E st h => let ⟨⟨_, he⟩, _⟩ := st; wpAny_pyIter_enum he h
def iEnumT (K : PySem.W.Frag) (ta : TA) : TI := fun σ H R => ta σ H fun vs H1 => ∃ a xs, vs = [.ref a] ∧ SqT K H1 a xs ∧ R (IteT K a) H1
theorem pi_enumT {X : Cx} {e : Expr} {ta : TA} {p pos tpos : Pos} {elts : List Expr} {kk : Nat} (hg : Gl X "enumerate") (hm : X.mg "enumerate" = none) (ha : PA X [e] ta) (hs : starEach [e] X.env = [(false, eval e X.env)] := by rfl) :
    PI X (.Tuple elts kk tpos) (.Call (.Name "enumerate" p) [e] [] pos) (iEnumT X.K ta) := by
  refine ⟨fun pins s σ H R I h => ?_⟩
  refine Call_ (ld_blt I hg hm boot_enumerate (PyProof.Rows.callWith_type1 (thn (ha.run pos pins s σ H _ I h) fun us s1 ⟨vs, H1, I1, r1, q1⟩ => ?_) hs rfl))
  obtain ⟨a, xs, ex, hq, q⟩ := q1
  subst ex
  cases r1 with
  | cons r rr =>
    cases rr
    cases r
    obtain ⟨its, rv, pt, hz⟩ := I1.tuple hq
    have hal : a < s1.heap.objs.size := by
      obtain ⟨o, ho, _⟩ := pt
      exact Heap.lt_size ho
    refine call_enum1 (begins_tuple a its.toArray) pt fun h' he hit hk => wpAny_pyIter_enum he ?_
    have I2 : Inv X pins σ H1 { s1 with heap := h' } := I1.kept (t' := s1.toks) hk
    refine ⟨s1.heap.objs.size + 1, [s1.heap.objs.size + 1, s1.heap.objs.size], _, _, H1, rfl, I2, turn_enumT a (s1.heap.objs.size + 1) s1.heap.objs.size (Nat.ne_of_lt hal) (Nat.ne_of_lt (Nat.lt_succ_of_lt hal)) (Nat.succ_ne_self _), ⟨⟨.none, he⟩, ⟨_, hit, rfl, rfl⟩⟩, fun b hb => ?_, q⟩
    have hle : s1.heap.objs.size ≤ b := by
      rcases List.mem_cons.mp hb with z | z
      · rw [z]; exact Nat.le_add_right _ _
      · rw [List.mem_singleton.mp z]; exact Nat.le_refl _
    exact I1.fpOk hle (I1.hok.fresh hle)

/-! ### enumerate, by data -/
def enumD : Int → List D → List D
  | _, [] => []
  | i, d :: r => .tuple [.int i, d] :: enumD (i + 1) r
theorem enumD_len : ∀ (ds : List D) (i : Int), (enumD i ds).length = ds.length
  | [], _ => rfl
  | _ :: r, i => congrArg (· + 1) (enumD_len r (i + 1))
theorem enumD_get : ∀ (ds : List D) (k : Int) (i : Nat) (x : D), (enumD k ds)[i]? = some x → ∃ d, ds[i]? = some d ∧ x = .tuple [.int (k + i), d]
  | [], _, _, _, h => by simp [enumD] at h
  | d :: r, k, 0, x, h => by
    have e := Option.some.inj h
    exact ⟨d, rfl, by rw [← e]; simp⟩
  | d :: r, k, i + 1, x, h => by
    obtain ⟨d', h1, h2⟩ := enumD_get r (k + 1) i x h
    refine ⟨d', h1, ?_⟩
    rw [h2]
    congr 3
    omega
theorem itd_enumL {K : PySem.W.Frag} {B : Hp} {a : Addr} {vs : List V} {ds : List D} (h : SqL K B a vs) (hd : DpAll K B vs ds) : ItD K B (Ite K a) (enumD 0 ds) := fun B2 H2 b1 b2 => by
  have hs : SqL K H2 a vs := sqL_same b2 (sqL_same b1 h)
  refine ⟨⟨vs, hs, by rw [enumD_len]; exact Nat.le_of_eq (dps_len hd)⟩, fun i d e => ?_⟩
  obtain ⟨d', e1, rfl⟩ := enumD_get _ _ _ _ e
  obtain ⟨v, hv, hx⟩ := dps_get hd e1
  refine ⟨⟨vs, v, hs, hv⟩, fun x H3 y => ?_⟩
  obtain ⟨T, x', rfl, hT, rfl, y⟩ := y
  have ex : v = x' := Option.some.inj (hv.symm.trans (y vs hs))
  subst ex
  have hT2 : B2 T = none := b2.free hT
  refine ⟨upd B2 T (.tup [.int (i : Nat), v]), .newB b2 hT, ?_⟩
  have ei : (0 : Int) + (i : Nat) = (i : Nat) := by omega
  rw [ei]
  exact .tup (SqT.of upd_same) (.cons (.int _) (.cons (dp_same (b1.trans (same_upd hT2)) _ _ hx) .nil))
theorem itd_enumT {K : PySem.W.Frag} {B : Hp} {a : Addr} {vs : List V} {ds : List D} (h : SqT K B a vs) (hd : DpAll K B vs ds) : ItD K B (IteT K a) (enumD 0 ds) := fun B2 H2 b1 b2 => by
  have hs : SqT K H2 a vs := sqT_same b2 (sqT_same b1 h)
  refine ⟨⟨vs, hs, by rw [enumD_len]; exact dps_len hd⟩, fun i d e => ?_⟩
  obtain ⟨d', e1, rfl⟩ := enumD_get _ _ _ _ e
  obtain ⟨v, hv, hx⟩ := dps_get hd e1
  refine ⟨⟨vs, v, hs, hv⟩, fun x H3 y => ?_⟩
  obtain ⟨T, x', rfl, hT, rfl, y⟩ := y
  have ex : v = x' := Option.some.inj (hv.symm.trans (y vs hs))
  subst ex
  have hT2 : B2 T = none := b2.free hT
  refine ⟨upd B2 T (.tup [.int (i : Nat), v]), .newB b2 hT, ?_⟩
  have ei : (0 : Int) + (i : Nat) = (i : Nat) := by omega
  rw [ei]
  exact .tup (SqT.of upd_same) (.cons (.int _) (.cons (dp_same (b1.trans (same_upd hT2)) _ _ hx) .nil))
def fEnum (f : FA) : FI := fun s => (f s).bind fun rs s1 => match rs with
  | [.imm (.list ds)] => .ok (enumD 0 ds) s1
  | [.imm (.tuple ds)] => .ok (enumD 0 ds) s1
  | _ => .no
theorem di_enum {X : Cx} {p : Pr} {W : WX} {fa : FA} {e : Expr} {pp pos tpos : Pos} {elts : List Expr} {kk : Nat} (hg : Gl X "enumerate") (hm : X.mg "enumerate" = none) (ha : PA X [e] (tA p W fa)) (eK : p.K = X.K := by rfl) (hs : starEach [e] X.env = [(false, eval e X.env)] := by rfl) :
    PI X (.Tuple elts kk tpos) (.Call (.Name "enumerate" pp) [e] [] pos) (tI p W (fEnum fa)) := PI.imp (PI.or (pi_enum hg hm ha hs) (pi_enumT hg hm ha hs)) fun σ H Q h => by
  obtain ⟨B, s, ok, q⟩ := h
  unfold fEnum at q
  cases ef : fa s with
  | no =>
    rw [ef] at q
    exact q.elim
  | ex e' s' => exact .inl ⟨B, s, ok, by rw [ef] at q ⊢; exact q⟩
  | ok r1 s1 =>
    rw [ef] at q
    simp only [R.bind] at q
    split at q
    · rename_i ds
      refine .inl ⟨B, s, ok, ?_⟩
      rw [ef]
      intro B1 H1 x1 ok1 vs hv
      cases hv with
      | cons h t =>
        cases t
        cases h with
        | lst hs' hd => exact ⟨_, _, rfl, by rw [← eK]; exact sqL_same ok1.bh hs', q B1 H1 x1 ok1 _ (by rw [← eK]; exact itd_enumL hs' hd)⟩
    · rename_i ds
      refine .inr ⟨B, s, ok, ?_⟩
      rw [ef]
      intro B1 H1 x1 ok1 vs hv
      cases hv with
      | cons h t =>
        cases t
        cases h with
        | tup hs' hd => exact ⟨_, _, rfl, by rw [← eK]; exact sqT_same ok1.bh hs', q B1 H1 x1 ok1 _ (by rw [← eK]; exact itd_enumT hs' hd)⟩
    · exact q.elim
end DL
end

set_option Elab.async false
set_option linter.all false
set_option maxRecDepth 100000
set_option maxHeartbeats 4000000
noncomputable section
namespace DL
open PySem PySem.Spec PyProof.Rows L2

/-! ### list(range(..)) -/
theorem dps_rgF {K : PySem.W.Frag} {B : Hp} : ∀ (n : Nat) (lo : Int), DpAll K B ((List.range n).map fun i => V.int (lo + (i : Nat))) (rgFrom lo n)
  | 0, _ => .nil
  | n + 1, lo => by
    rw [List.range_succ_eq_map, List.map_cons, List.map_map]
    have e : (fun i : Nat => V.int (lo + (i : Nat))) ∘ Nat.succ = fun i : Nat => V.int (lo + 1 + (i : Nat)) := by
      funext i
      show V.int (lo + ((i + 1 : Nat) : Int)) = V.int (lo + 1 + (i : Nat))
      congr 1
      omega
    rw [e]
    have e0 : lo + ((0 : Nat) : Int) = lo := by omega
    rw [e0]
    exact .cons (.int lo) (dps_rgF n (lo + 1))
def okRg (a b : Int) : Bool := bnd62 a && bnd62 b && decide ((b - a).toNat ≤ mx)
theorem okRg_ok {a b : Int} (h : okRg a b = true) : RgOk a b := by
  unfold okRg at h
  rw [Bool.and_eq_true, Bool.and_eq_true, decide_eq_true_eq] at h
  obtain ⟨h1, h2⟩ := bnd62_ok h.1.1
  obtain ⟨h3, h4⟩ := bnd62_ok h.1.2
  exact ⟨h1, h2, h3, h4, Nat.le_trans h.2 (by decide)⟩
def fLRg1 (f : FE) : FE := fun s => (f s).bind fun r s1 => match r with
  | .imm (.int b) => if okRg 0 b then .ok (.tmp (rgFrom 0 (b - 0).toNat)) s1 else .no
  | _ => .no
def fLRg2 (f g : FE) : FE := fun s => (f s).bind fun r s1 => (g s1).bind fun r2 s2 => match r, r2 with
  | .imm (.int a), .imm (.int b) => if okRg a b then .ok (.tmp (rgFrom a (b - a).toNat)) s2 else .no
  | _, _ => .no
section
variable {X : Cx} {p : Pr} {W : WX} {f g : FE} {a b : Expr} {pos p1 p2 pos2 : Pos}
theorem de_lrg1 (hc : X.calm = true) (hg : Gl X "list") (hm : X.mg "list" = none) (hg2 : Gl X "range") (hm2 : X.mg "range" = none) (ha : PE X a (tE p W f)) (h1 : starEach [a] X.env = (false, eval a X.env) :: starEach [] X.env := by rfl)
    (h2 : starEach [Expr.Call (.Name "range" p2) [a] [] pos2] X.env = (false, eval (Expr.Call (.Name "range" p2) [a] [] pos2) X.env) :: starEach [] X.env := by rfl) :
    PE X (.Call (.Name "list" p1) [.Call (.Name "range" p2) [a] [] pos2] [] pos) (tE p W (fLRg1 f)) := PE.imp (pe_listRg hc hg hm (prg_1 hg2 hm2 ha h1) h2) fun σ H Q h => by
  obtain ⟨B, s, ok, q⟩ := h
  refine ⟨B, s, ok, run_mono (run_bind q) fun r s1 B1 H1 x1 ok1 k v hv => ?_⟩
  split at k
  · rename_i j
    by_cases hz : okRg 0 j = true
    · rw [if_pos hz] at k
      cases hv
      exact ⟨j, rfl, okRg_ok hz, fun q n => k B1 _ (.newH n) (ok1.newH n) _ ⟨q, _, rfl, x1.dom _ n, upd_same, ok1.bh.free n, dps_rgF _ _, ok1.notOwn n⟩⟩
    · rw [if_neg hz] at k
      exact k.elim
  · exact k.elim
theorem de_lrg2 (hc : X.calm = true) (hg : Gl X "list") (hm : X.mg "list" = none) (hg2 : Gl X "range") (hm2 : X.mg "range" = none) (ha : PE X a (tE p W f)) (hb : PE X b (tE p W g)) (h1 : starEach [a, b] X.env = (false, eval a X.env) :: starEach [b] X.env := by rfl)
    (h3 : starEach [b] X.env = (false, eval b X.env) :: starEach [] X.env := by rfl) (h4 : (backTo pos2 (starEach [b] X.env)).any (·.1) = false := by rfl)
    (h2 : starEach [Expr.Call (.Name "range" p2) [a, b] [] pos2] X.env = (false, eval (Expr.Call (.Name "range" p2) [a, b] [] pos2) X.env) :: starEach [] X.env := by rfl) :
    PE X (.Call (.Name "list" p1) [.Call (.Name "range" p2) [a, b] [] pos2] [] pos) (tE p W (fLRg2 f g)) := PE.imp (pe_listRg hc hg hm (prg_2 hg2 hm2 ha hb h1 h3 h4) h2) fun σ H Q h => by
  obtain ⟨B, s, ok, q⟩ := h
  refine ⟨B, s, ok, run_mono (run_bind q) fun r s1 B1 H1 x1 ok1 k v hv => ⟨B1, s1, ok1, run_mono (run_bind k) fun r2 s2 B2 H2 x2 ok2 k2 u hu => ?_⟩⟩
  split at k2
  · rename_i i j
    by_cases hz : okRg i j = true
    · rw [if_pos hz] at k2
      cases hv
      cases hu
      exact ⟨i, j, rfl, rfl, okRg_ok hz, fun q n => k2 B2 _ (.newH n) (ok2.newH n) _ ⟨q, _, rfl, x1.dom _ (x2.dom _ n), upd_same, ok2.bh.free n, dps_rgF _ _, ok2.notOwn n⟩⟩
    · rw [if_neg hz] at k2
      exact k2.elim
  · exact k2.elim
end
end DL
end

set_option Elab.async false
set_option linter.all false
set_option maxRecDepth 100000
set_option maxHeartbeats 4000000
noncomputable section
namespace DL
open PySem PySem.Spec PyProof.Rows L2

/-! ### __init__(self, x): self.f = x -/
section
variable {P : Program} {w : World} {K : PySem.W.Frag} {mg : Str → Option Value} {base : Heap}
theorem fn_init1 {x qual fl : Str} {st : Stmt} {f C : Addr} {fd : FuncData} {N ps : List Str} {k : Nat} (F : Fun K x qual st f fd) (S : FnScope N ps (defScope st)) (hN : N.length = 2) (hp : ps.length = 2) (T : OexC K C) (hno : PySem.W.findIn K (.ref C) fl = some none)
    (hb : ∀ (cdv : Value) (A : Around) (outer : List Env) (s : Shared) (H : Hp) (E : XK), PSs (cxOf (L2.CX P w) P w K mg base N qual (defScope st) f cdv A outer s H E) (defBody st) (tOst K fl (tVar 0) (tVar 1))) :
    FnOk P w K mg base (L2.CX P w) (k + 1) f fd ps (spI1 C fl) := by
  refine F.okX S (fun vs H Q E h => ?_) (fun cdv A outer s H vs Q E hr h => ?_)
  · obtain ⟨a, y, rfl, _⟩ := h
    rw [hp]
    rfl
  · obtain ⟨a, y, rfl, ha, q⟩ := h
    refine ⟨_, hb cdv A outer s H E, y, ?_, .ref a, ?_, a, C, rfl, T, hno, .inl ⟨ha, fun dx n ne => ?_⟩⟩
    · unfold L2.start
      rfl
    · unfold L2.start
      rfl
    · exact q dx n ne
end
end DL
end

set_option Elab.async false
set_option linter.all false
set_option maxRecDepth 100000
set_option maxHeartbeats 4000000
noncomputable section
namespace DL
open PySem PySem.Spec PyProof.Rows L2

/-! ### itertools.permutations: what the tables say of it -/
namespace Pm
abbrev T : String := "itertools.permutations"
theorem slot_init : Slot "itertools.permutations" "__init__" "object.__init__" :=
  .of (owner := "object") (n := "__init__") (by rw [typeLookup_type, builtinLookup_eq_fast]; kernel_rfl) (by decide +kernel) (by decide +kernel) (by decide +kernel) (by first | exact .inl (by decide +kernel) | exact .inr (by decide +kernel)) (by rw [isSubtype_type]; kernel_rfl)
theorem slot_iter : Slot "itertools.permutations" "__iter__" "itertools.permutations.__iter__" :=
  .of (owner := "itertools.permutations") (n := "__iter__") (by rw [typeLookup_type, builtinLookup_eq_fast]; kernel_rfl) (by decide +kernel) (by decide +kernel) (by decide +kernel) (by first | exact .inl (by decide +kernel) | exact .inr (by decide +kernel)) (by rw [isSubtype_type]; kernel_rfl)
theorem slot_next : Slot "itertools.permutations" "__next__" "itertools.permutations.__next__" :=
  .of (owner := "itertools.permutations") (n := "__next__") (by rw [typeLookup_type, builtinLookup_eq_fast]; kernel_rfl) (by decide +kernel) (by decide +kernel) (by decide +kernel) (by first | exact .inl (by decide +kernel) | exact .inr (by decide +kernel)) (by rw [isSubtype_type]; kernel_rfl)
theorem entry_next : entryFor table "itertools.permutations.__next__" = some Builtin.«itertools.permutations.__next__» := entryFor_of_tree (by kernel_rfl)
theorem entry_new : entryFor table "itertools.permutations.__new__" = some Builtin.«itertools.permutations.__new__» := entryFor_of_tree (by kernel_rfl)
theorem entry_iter : entryFor table "itertools.permutations.__iter__" = some Builtin.«dict_keyiterator.__iter__» :=
  entryFor_alias (id' := "dict_keyiterator.__iter__") (by kernel_rfl) (by first | rfl | decide +kernel | (unfold String.splitOn; simp +decide [String.splitOnAux])) (by decide +kernel) (by kernel_rfl)
theorem mro : mroOf (.type "itertools.permutations") = pure [.type "itertools.permutations", .type "object"] := by rw [mroOf_type]; kernel_rfl
theorem lookup_new : typeLookup (.type "itertools.permutations") "__new__" = pure (some (.builtin "itertools.permutations.__new__")) := by rw [typeLookup_type, builtinLookup_eq_fast]; kernel_rfl
theorem called : TypeCalled "itertools.permutations" "itertools.permutations.__new__" "object.__init__" :=
  ⟨by decide +kernel, by decide +kernel, ⟨_, _, mro⟩, madeBy_type mro lookup_new (by decide +kernel), by decide +kernel, by rw [isSubtype_type]; kernel_rfl, slot_init⟩
theorem typeCall (a : Value) : checkTypeCall "itertools.permutations" ⟨[a], []⟩ = pure () := by kernel_rfl
theorem newCall (a : Value) : checkBuiltinCall "itertools.permutations.__new__" ⟨[.type "itertools.permutations", a], []⟩ = pure () := by kernel_rfl
theorem owner : "itertools.permutations".toList.reverse = ['s', 'n', 'o', 'i', 't', 'a', 't', 'u', 'm', 'r', 'e', 'p', '.', 's', 'l', 'o', 'o', 't', 'r', 'e', 't', 'i'] := by decide +kernel
end Pm
end DL
end

set_option Elab.async false
set_option linter.all false
set_option maxRecDepth 100000
set_option maxHeartbeats 4000000
noncomputable section
namespace DL
open PySem PySem.Spec PyProof.Rows L2
namespace Pm
theorem own : Manifest.owners.lookup (String.ofList ['s', 'n', 'o', 'i', 't', 'a', 't', 'u', 'm', 'r', 'e', 'p', '.', 's', 'l', 'o', 'o', 't', 'r', 'e', 't', 'i'].reverse) = some Manifest.sig_itertools_permutations := by kernel_rfl
theorem args_next (a : Value) : argsOk "itertools.permutations.__next__" ⟨[a], []⟩ := by
  unfold argsOk; rw [signature?_of (id := "itertools.permutations.__next__") (n := ['_', '_', 't', 'x', 'e', 'n', '_', '_']) (o := ['s', 'n', 'o', 'i', 't', 'a', 't', 'u', 'm', 'r', 'e', 'p', '.', 's', 'l', 'o', 'o', 't', 'r', 'e', 't', 'i']) (by kernel_rfl) own]; kernel_rfl
theorem args_iter (a : Value) : argsOk "itertools.permutations.__iter__" ⟨[a], []⟩ := by
  unfold argsOk; rw [signature?_of (id := "itertools.permutations.__iter__") (n := ['_', '_', 'r', 'e', 't', 'i', '_', '_']) (o := ['s', 'n', 'o', 'i', 't', 'a', 't', 'u', 'm', 'r', 'e', 'p', '.', 's', 'l', 'o', 'o', 't', 'r', 'e', 't', 'i']) (by kernel_rfl) own]; kernel_rfl
theorem bindNamed (v : Value) : Builtin.Itertools.itBindNamed "permutations" ["iterable", "r"] 1 2 [v] [] = pure [some v, none] := by kernel_rfl
theorem classRest (v : Value) : Builtin.Itertools.itClassAndRest "permutations" ⟨[.type "itertools.permutations", v], []⟩ = pure (.type "itertools.permutations", [v]) := by
  unfold Builtin.Itertools.itClassAndRest
  have h1 : ("itertools." ++ "permutations" : String) = "itertools.permutations" := by decide +kernel
  have h2 := called.sub
  simp only [h1, isType, pure_bind, h2, Bool.not_true, Bool.false_eq_true, if_false]
theorem plain_new : plainId "itertools.permutations.__new__" = true := by decide +kernel
theorem plain_next : plainId "itertools.permutations.__next__" = true := by decide +kernel
theorem noDict : typeHasDict (.type "itertools.permutations") = false := by decide +kernel
/-- the iterator's object -/
abbrev ob (t : Addr) (st : Int) (n : Nat) (last : Value) (nums : List Nat) : Obj := { cls := .type "itertools.permutations", data := .fields ([.ref t, rawInt st, rawInt n, last] ++ nums.map fun (i : Nat) => rawInt i).toArray }
section
variable {prog : Program} {w : World} {A : Around} {E : Value → Shared → Prop} {s : Shared} {r : Addr} {b : Int} {t u v : Tok} {n : Nat}
theorem code_new {Q₁ : Value → Shared → Prop} (hh : A.handled = none) (hr : IsRange s.heap r 0 b 1 t u v) (hsmall : Builtin.Range.small 0 b 1 = true) (hn : Builtin.Range.rangeSize 0 b 1 = n) (hlen : n ≤ 1000)
    (h : ∀ (h' : Heap) (tk : Nat) (acc : Array Value), (∀ b o, s.heap.get? b = some o → h'.get? b = some o) → ItemsOf (fun i v => ∃ t, v = .int (0 + i * 1) t) acc n →
      Q₁ (.ref (h'.objs.size + 1)) { s with heap := (h'.push { cls := .type "tuple", data := .seq acc }).push (ob h'.objs.size 0 n .none (List.range n ++ (List.range n).map fun i => n - i)), toks := tk }) :
    codeAny (model prog w) A (.call (.builtin "itertools.permutations.__new__") ⟨[.type "itertools.permutations", .ref r], []⟩) (wants Q₁ E) s := by
  refine codeAny_of_tree ?_
  show wpAny _ A.in1 (do checkBuiltinCall "itertools.permutations.__new__" ⟨[.type "itertools.permutations", .ref r], []⟩; again (.builtin "itertools.permutations.__new__" ⟨[.type "itertools.permutations", .ref r], []⟩)) _ _ s
  refine wpAny_bind (wpAny_of_eq (newCall _) (wpAny_pure ⟨plainId_quiet plain_new _, codeAny_builtin entry_new ?_⟩))
  rw [Around.under_plainId plain_new _]
  unfold Builtin.«itertools.permutations.__new__»
  refine wpAny_bind (wpAny_of_eq (classRest _) (wpAny_bind (wpAny_of_eq (bindNamed _) ?_)))
  refine wpAny_bind (collect_range (A := A.in1) hh hr hsmall hn (by omega) fun h' tk acc hk hacc => ?_)
  have hl : acc.toList.length = n := (Array.length_toList).trans hacc.1
  dsimp only [Option.getD]
  rw [hl]
  refine wpAny_bind (wpAny_pure ?_)
  have n0 : ¬ ((n : Int) < 0) := by omega
  have n1 : ¬ (Builtin.Itertools.itTooMany (n : Int) = true) := by
    unfold Builtin.Itertools.itTooMany
    rw [decide_eq_true_eq]
    omega
  rw [if_neg n0, if_neg n1]
  refine wpAny_bind (wpAny_newTuple ?_ (by rw [hl]; exact Nat.le_trans hlen (by rw [sizeLine_eq]; decide)))
  have n2 : (n : Int).toNat = n := by omega
  have n3 : ¬ (n > n) := by omega
  rw [n2, if_neg n3]
  unfold Builtin.Itertools.itNewRecord
  rw [noDict, if_pos (by rfl)]
  have hf : ∀ x : Value, ([x, rawInt 0, rawInt n, Value.none] ++ (List.range n).map (fun (i : Nat) => rawInt i) ++ (List.range n).map fun (i : Nat) => rawInt ((n : Int) - i)) = [x, rawInt 0, rawInt n, Value.none] ++ (List.range n ++ (List.range n).map fun i => n - i).map fun (i : Nat) => rawInt i := fun x => by
    rw [List.append_assoc, List.map_append, List.map_map]
    congr 2
    refine List.map_congr_left fun i hi => ?_
    have hi := List.mem_range.mp hi
    show rawInt _ = rawInt _
    congr 1
    show (n : Int) - (i : Nat) = ((n - i : Nat) : Int)
    omega
  rw [hf]
  refine wpAny_bind (wpAny_newObj_type (wpAny_pure ?_) ?_)
  · have q := h h' tk acc hk hacc
    have e1 : acc.toList.toArray = acc := by simp
    have e2 : (h'.push { cls := .type "tuple", data := .seq acc }).objs.size = h'.objs.size + 1 := Heap.size_push ..
    rw [e1]
    show wants Q₁ E _ _
    show Q₁ _ _
    dsimp only
    rw [e2]
    exact q
  · show (_ : List Value).toArray.size ≤ sizeLine + 2
    rw [List.size_toArray, List.length_append, List.length_map, List.length_append, List.length_map, List.length_range, sizeLine_eq]
    show 4 + (n + n) ≤ _
    omega
theorem call_new {Q : Value → Shared → Prop} (hh : A.handled = none) (hr : IsRange s.heap r 0 b 1 t u v) (hsmall : Builtin.Range.small 0 b 1 = true) (hn : Builtin.Range.rangeSize 0 b 1 = n) (hlen : n ≤ 1000)
    (h : ∀ (h' : Heap) (tk : Nat) (acc : Array Value), (∀ b o, s.heap.get? b = some o → h'.get? b = some o) → ItemsOf (fun i v => ∃ t, v = .int (0 + i * 1) t) acc n →
      Q (.ref (h'.objs.size + 1)) { s with heap := (h'.push { cls := .type "tuple", data := .seq acc }).push (ob h'.objs.size 0 n .none (List.range n ++ (List.range n).map fun i => n - i)), toks := tk }) :
    wpAny (model prog w) A (call (.type "itertools.permutations") [.ref r]) Q E s := by
  refine callType_codes (Q₁ := fun obj s₁ => s₁.TypeIs obj "itertools.permutations" ∧ Q obj s₁) called (typeCall _) F.entry_object_init
    (code_new (A := A.in1) hh hr hsmall hn hlen fun h' tk acc hk hacc => ⟨⟨ob h'.objs.size 0 n .none (List.range n ++ (List.range n).map fun i => n - i), ?_, rfl⟩, h h' tk acc hk hacc⟩) fun obj s₁ h₁ => ?_
  · have e2 : (h'.push { cls := .type "tuple", data := .seq acc }).objs.size = h'.objs.size + 1 := Heap.size_push ..
    rw [← e2]
    exact Heap.get?_push_size _ rfl
  · exact ⟨h₁.1, F.args_object_init_2 obj _, object_init_meets called.init.lookup called.made (by decide) prog w A.in1 _ s₁ ⟨h₁.1, rfl, h₁.2⟩⟩
/-- the next indices and cycles, None at the end -/
def np (n : Nat) : Nat → List Nat → List Nat → Option (List Nat × List Nat)
  | 0, _, _ => none
  | i + 1, ix, cy => if (cy.getD i 0 - 1 == 0) = true then np n i (ix.take i ++ ix.drop (i + 1) ++ [ix.getD i 0]) (cy.set i (n - i)) else some ((ix.set i (ix.getD (n - (cy.getD i 0 - 1)) 0)).set (n - (cy.getD i 0 - 1)) (ix.getD i 0), cy.set i (cy.getD i 0 - 1))
/-- whatever does the same steps is np -/
theorem np_of {f : Nat → Nat → List Nat → List Nat → Option (List Nat × List Nat)} {n i : Nat} {ix cy : List Nat} {res : Option (List Nat × List Nat)} (e : f n i ix cy = res) (h0 : ∀ n ix cy, f n 0 ix cy = none)
    (h1 : ∀ n i ix cy, f n (i + 1) ix cy = if (cy.getD i 0 - 1 == 0) = true then f n i (ix.take i ++ ix.drop (i + 1) ++ [ix.getD i 0]) (cy.set i (n - i)) else some ((ix.set i (ix.getD (n - (cy.getD i 0 - 1)) 0)).set (n - (cy.getD i 0 - 1)) (ix.getD i 0), cy.set i (cy.getD i 0 - 1))) :
    np n i ix cy = res := by
  rw [← e]
  clear e
  induction i generalizing ix cy with
  | zero => rw [h0] <;> rfl
  | succ i ih =>
    rw [h1]
    unfold np
    split
    · exact ih
    · rfl
theorem iter_ok {it tt : Addr} {st : Int} {last : Value} {nums : List Nat} {Q : Value → Shared → Prop} (ho : s.heap.get? it = some (ob tt st n last nums)) (h : Q (.ref it) s) : wpAny (model prog w) A (pyIter (.ref it)) Q E s := by
  have hT : s.TypeIs (.ref it) "itertools.permutations" := ⟨_, ho, rfl⟩
  refine wpAny_pyIter_slot hT slot_iter (wpAny_call_entry slot_iter hT entry_iter ?_ (args_iter _))
  show wpAny _ _ (ret (.ref it)) _ _ s
  exact wpAny_pure ⟨_, rfl, "itertools.permutations", _, hT, slot_next.lookup, h⟩
theorem nums_from {M : Model} {it tt : Addr} {st : Int} {last : Value} {nums : List Nat} {Q : List Nat → Shared → Prop} (ho : s.heap.get? it = some (ob tt st n last nums)) (h : Q nums s) : wpAny M A (Builtin.Itertools.itNumbersFrom (.ref it) 4) Q E s := by
  unfold Builtin.Itertools.itNumbersFrom
  refine wpAny_bind (wpAny_load ho ?_)
  have e : (((([Value.ref tt, rawInt st, rawInt n, last] ++ nums.map fun (i : Nat) => rawInt i).toArray).toList.drop 4).map fun x => match x with | .int n _ => n.toNat | _ => 0) = nums := by
    show ((nums.map fun (i : Nat) => rawInt i).map _) = nums
    rw [List.map_map]
    exact (List.map_congr_left fun i _ => by show (rawInt (i : Int) |> fun x => match x with | .int n _ => n.toNat | _ => 0) = i; show (i : Int).toNat = i; omega).trans (List.map_id _)
  show wpAny M A (pure (((([Value.ref tt, rawInt st, rawInt n, last] ++ nums.map fun (i : Nat) => rawInt i).toArray).toList.drop 4).map fun x => match x with | .int n _ => n.toNat | _ => 0)) Q E s
  rw [e]
  exact wpAny_pure h
theorem int_field {it tt : Addr} {st : Int} {last : Value} {nums : List Nat} {Q : Int → Shared → Prop} {k : Nat} {i : Int} (ho : s.heap.get? it = some (ob tt st n last nums)) (hk : (([Value.ref tt, rawInt st, rawInt n, last] ++ nums.map fun (i : Nat) => rawInt i).toArray)[k]? = some (rawInt i)) (h : Q i s) :
    wpAny (model prog w) A (Builtin.Itertools.itIntField (.ref it) k) Q E s := by
  unfold Builtin.Itertools.itIntField
  exact wpAny_bind (wpAny_field ho rfl (x := rawInt i) hk (wpAny_pure h))
/-- the tuple of the items at the indices -/
abbrev pick (xs : Array Value) (ix : List Nat) : List Value := ix.map fun i => xs.getD i .none
theorem set_nums {it tt : Addr} {st : Int} {last : Value} {nums ms : List Nat} {Q : Unit → Shared → Prop} (ho : s.heap.get? it = some (ob tt st n last nums)) (hm : (ms.length ≤ 5000))
    (h : ∀ h', h'.get? it = some (ob tt st n last ms) → Heap.SameBut it s.heap h' → Q () { s with heap := h' }) : wpAny (model prog w) A (Builtin.Itertools.itSetNumbersFrom (.ref it) 4 ms) Q E s := by
  unfold Builtin.Itertools.itSetNumbersFrom
  have e : (([Value.ref tt, rawInt st, rawInt n, last] ++ nums.map fun (i : Nat) => rawInt i).toArray.extract 0 4 ++ (ms.map fun (i : Nat) => rawInt i).toArray) = ([Value.ref tt, rawInt st, rawInt n, last] ++ ms.map fun (i : Nat) => rawInt i).toArray := by
    simp
  refine wpAny_updateFields ho rfl (h _ ?_ (Heap.SameBut.update ..)) ?_
  · rw [Heap.get?_update_self _ ho rfl]
    show some ({ cls := _, data := .fields (([Value.ref tt, rawInt st, rawInt n, last] ++ nums.map fun (i : Nat) => rawInt i).toArray.extract 0 4 ++ (ms.map fun (i : Nat) => rawInt i).toArray) } : Obj) = _
    rw [e]
  · rw [e, List.size_toArray, List.length_append, List.length_map, sizeLine_eq]
    show 4 + _ ≤ _
    omega
/-- a new tuple handed out -/
theorem hand_out {it tt : Addr} {st : Int} {last : Value} {nums : List Nat} {L : List Value} {Q : PySem.Fin → Shared → Prop} (ho : s.heap.get? it = some (ob tt st n last nums)) (hL : L.length ≤ sizeLine)
    (h : ∀ h' : Heap, h'.get? it = some (ob tt st n (.ref s.heap.objs.size) nums) → h'.get? s.heap.objs.size = some { cls := .type "tuple", data := .seq L.toArray } → (∀ b o, b ≠ it → s.heap.get? b = some o → h'.get? b = some o) → Q (.done (.ret (.ref s.heap.objs.size))) { s with heap := h' }) :
    wpAny (model prog w) A (do
      let t ← newTuple L
      let before ← field (.ref it) 3
      setField (.ref it) 3 t
      letGo [before] [t]
      ret t) Q E s := by
  have lt : it < s.heap.objs.size := Heap.lt_size ho
  have h1 : (s.heap.push { cls := .type "tuple", data := .seq L.toArray }).get? it = some (ob tt st n last nums) := Heap.get?_push_of_some _ ho
  have h2 : (s.heap.push { cls := .type "tuple", data := .seq L.toArray }).get? s.heap.objs.size = some { cls := .type "tuple", data := .seq L.toArray } := Heap.get?_push_size _ rfl
  refine wpAny_bind (wpAny_newTuple ?_ hL)
  refine wpAny_bind (wpAny_field h1 rfl (x := last) rfl ?_)
  refine wpAny_bind (wpAny_setField_rec h1 (by simp) fun h' k1 k2 => ?_)
  refine wpAny_bind (wpAny_letGo (wpAny_pure (h h' ?_ ?_ ?_)))
  · rw [k1]
    rfl
  · exact (k2.2 _ (Nat.ne_of_gt lt)).trans h2
  · exact fun b o hb e => (k2.2 b hb).trans (Heap.get?_push_of_some _ e)
theorem pick_len {xs : Array Value} {ix : List Nat} : (pick xs ix).length = ix.length := List.length_map _
theorem next_first {it tt : Addr} {last : Value} {nums : List Nat} {xs : Array Value} {Q : Option Value → Shared → Prop} (ho : s.heap.get? it = some (ob tt 0 n last nums)) (ht : s.heap.IsTuple tt xs) (hx : xs.size = n) (hn : n ≤ 1000)
    (h : ∀ h' : Heap, h'.get? it = some (ob tt 1 n (.ref s.heap.objs.size) nums) → h'.get? s.heap.objs.size = some { cls := .type "tuple", data := .seq (pick xs (nums.take n)).toArray } → (∀ b o, b ≠ it → s.heap.get? b = some o → h'.get? b = some o) →
      Q (some (.ref s.heap.objs.size)) { s with heap := h' }) : wpAny (model prog w) A (pyNext (.ref it)) Q E s := by
  have hT : s.TypeIs (.ref it) "itertools.permutations" := ⟨_, ho, rfl⟩
  obtain ⟨ot, hot, hct, nt, hdt⟩ := ht
  unfold pyNext
  refine wpAny_bind (wpAny_attempt (wpAny_callSpecial?_slot (name := Str.ofString "__next__") hT slot_next (wpAny_call_entry slot_next hT entry_next ?_ (args_next _))))
  show wpAny _ _ (field (.ref it) 0 >>= _) _ _ _
  refine wpAny_bind (wpAny_field ho rfl (x := .ref tt) rfl ?_)
  refine wpAny_bind (wpAny_bind (wpAny_seqItems hot hdt (wpAny_pure ?_)))
  show wpAny _ _ (Builtin.Itertools.itIntField (.ref it) 2 >>= _) _ _ _
  refine wpAny_bind (int_field ho rfl ?_)
  refine wpAny_bind (nums_from ho ?_)
  refine wpAny_bind (int_field ho rfl ?_)
  dsimp only
  have n2 : (n : Int).toNat = n := by omega
  rw [n2]
  refine wpAny_bind (wpAny_setField_rec ho (by simp) fun h1 k1 k2 => ?_)
  have k1 : h1.get? it = some (ob tt 1 n last nums) := k1
  have sz : h1.objs.size = s.heap.objs.size := k2.1
  refine hand_out (s := { s with heap := h1 }) k1 (by rw [pick_len, List.length_take, sizeLine_eq]; omega) fun h' g1 g2 g3 => ⟨_, rfl, wpAny_pure ?_⟩
  dsimp only at g1 g2
  rw [sz] at g1 g2 ⊢
  exact h h' g1 g2 fun b o hb e => g3 b o hb ((k2.2 b hb).trans e)
theorem next_more {it tt : Addr} {last : Value} {nums ix cy : List Nat} {xs : Array Value} {Q : Option Value → Shared → Prop} (ho : s.heap.get? it = some (ob tt 1 n last nums)) (ht : s.heap.IsTuple tt xs) (hx : xs.size = n) (hn : n ≤ 1000) (hnp : np n n (nums.take n) (nums.drop n) = some (ix, cy))
    (hl : (ix ++ cy).length ≤ 5000)
    (h : ∀ h' : Heap, h'.get? it = some (ob tt 1 n (.ref s.heap.objs.size) (ix ++ cy)) → h'.get? s.heap.objs.size = some { cls := .type "tuple", data := .seq (pick xs (ix.take n)).toArray } → (∀ b o, b ≠ it → s.heap.get? b = some o → h'.get? b = some o) →
      Q (some (.ref s.heap.objs.size)) { s with heap := h' }) : wpAny (model prog w) A (pyNext (.ref it)) Q E s := by
  have hT : s.TypeIs (.ref it) "itertools.permutations" := ⟨_, ho, rfl⟩
  obtain ⟨ot, hot, hct, nt, hdt⟩ := ht
  unfold pyNext
  refine wpAny_bind (wpAny_attempt (wpAny_callSpecial?_slot (name := Str.ofString "__next__") hT slot_next (wpAny_call_entry slot_next hT entry_next ?_ (args_next _))))
  show wpAny _ _ (field (.ref it) 0 >>= _) _ _ _
  refine wpAny_bind (wpAny_field ho rfl (x := .ref tt) rfl ?_)
  refine wpAny_bind (wpAny_bind (wpAny_seqItems hot hdt (wpAny_pure ?_)))
  show wpAny _ _ (Builtin.Itertools.itIntField (.ref it) 2 >>= _) _ _ _
  refine wpAny_bind (int_field ho rfl ?_)
  refine wpAny_bind (nums_from ho ?_)
  refine wpAny_bind (int_field ho rfl ?_)
  dsimp only
  have n2 : (n : Int).toNat = n := by omega
  rw [n2, hx]
  split
  · rename_i hz
    exact absurd hz (by decide)
  · split
    · rename_i ix' cy' heq
      have e := np_of heq (fun _ _ _ => rfl) (fun _ _ _ _ => rfl)
      rw [hnp] at e
      cases e
      refine wpAny_bind (set_nums ho hl fun h1 k1 k2 => ?_)
      have sz : h1.objs.size = s.heap.objs.size := k2.1
      refine hand_out (s := { s with heap := h1 }) k1 (by rw [pick_len, List.length_take, sizeLine_eq]; omega) fun h' g1 g2 g3 => ⟨_, rfl, wpAny_pure ?_⟩
      dsimp only at g1 g2
      rw [sz] at g1 g2 ⊢
      exact h h' g1 g2 fun b o hb e => g3 b o hb ((k2.2 b hb).trans e)
    · rename_i heq
      have e := np_of heq (fun _ _ _ => rfl) (fun _ _ _ _ => rfl)
      rw [hnp] at e
      cases e
  · rename_i z1 z2
    exact absurd rfl z2
theorem next_end {it tt : Addr} {last : Value} {nums : List Nat} {xs : Array Value} {Q : Option Value → Shared → Prop} (hh : A.handled = none) (ho : s.heap.get? it = some (ob tt 1 n last nums)) (ht : s.heap.IsTuple tt xs) (hx : xs.size = n) (hnp : np n n (nums.take n) (nums.drop n) = none)
    (h : ∀ h' : Heap, (∀ b o, b ≠ it → s.heap.get? b = some o → h'.get? b = some o) → Q none { s with heap := h' }) : wpAny (model prog w) A (pyNext (.ref it)) Q E s := by
  have hT : s.TypeIs (.ref it) "itertools.permutations" := ⟨_, ho, rfl⟩
  obtain ⟨ot, hot, hct, nt, hdt⟩ := ht
  unfold pyNext
  refine wpAny_bind (wpAny_attempt (wpAny_callSpecial?_slot (name := Str.ofString "__next__") hT slot_next (wpAny_call_entry slot_next hT entry_next ?_ (args_next _))))
  show wpAny _ _ (field (.ref it) 0 >>= _) _ _ _
  refine wpAny_bind (wpAny_field ho rfl (x := .ref tt) rfl ?_)
  refine wpAny_bind (wpAny_bind (wpAny_seqItems hot hdt (wpAny_pure ?_)))
  show wpAny _ _ (Builtin.Itertools.itIntField (.ref it) 2 >>= _) _ _ _
  refine wpAny_bind (int_field ho rfl ?_)
  refine wpAny_bind (nums_from ho ?_)
  refine wpAny_bind (int_field ho rfl ?_)
  dsimp only
  have n2 : (n : Int).toNat = n := by omega
  rw [n2, hx]
  split
  · rename_i hz
    exact absurd hz (by decide)
  · split
    · rename_i ix' cy' heq
      have e := np_of heq (fun _ _ _ => rfl) (fun _ _ _ _ => rfl)
      rw [hnp] at e
      cases e
    · refine wpAny_bind (wpAny_setField_rec ho (by simp) fun h1 k1 k2 => ?_)
      unfold Builtin.Itertools.itStop
      show wpAny _ _ (newExc (.type "StopIteration") [] >>= raiseNew) _ _ _
      refine wpAny_bind ?_
      simp only [newExc, newTuple]
      refine wpAny_bind (wpAny_newObj_type ?_ (by size_fits))
      refine wpAny_bind (m := firstArgMember _ _) (wpAny_of_eq (a := Value.none) (by first | rfl | (simp only [firstArgMember]; rfl)) ?_)
      refine wpAny_newObj_type ?_ (by size_fits)
      simp only [raiseNew]
      refine wpAny_bind (wpAny_handled ?_)
      first | rw [show A.in1.handled = none from hh] | rw [hh]
      refine wpAny_bind (wpAny_pure (wpAny_throw ?_))
      refine wpAny_bind (wpAny_isInstance (T := "StopIteration") (b := true) ⟨_, Heap.get?_push_size _ rfl, rfl⟩ isSubtype_stop ?_)
      exact wpAny_pure (h _ fun b o hb e => Heap.get?_push_of_some _ (Heap.get?_push_of_some _ ((k2.2 b hb).trans e)))
  · rename_i z1 z2
    exact absurd rfl z2
end
end Pm
end DL
end

set_option Elab.async false
set_option linter.all false
set_option maxRecDepth 100000
set_option maxHeartbeats 4000000
noncomputable section
namespace DL
open PySem PySem.Spec PyProof.Rows L2
namespace Pm

/-! ### the states of the iterator, one behind another -/
abbrev St2 := List Nat × List Nat
def sizes (n : Nat) (a : St2) : Bool := a.1.length == n && a.2.length == n
def later (n : Nat) : Nat → St2 → Option (List St2)
  | 0, _ => none
  | f + 1, a => match np n n a.1 a.2 with
    | none => some []
    | some b => if sizes n b then (later n f b).map (b :: ·) else none
def first (n : Nat) : St2 := (List.range n, (List.range n).map fun i => n - i)
def states (n : Nat) : Option (List St2) := (later n 1000000 (first n)).map (first n :: ·)
theorem first_sizes (n : Nat) : sizes n (first n) = true := by
  unfold sizes first
  simp
/-- a row of states -/
inductive Row (n : Nat) : St2 → List St2 → Prop
  | last {a : St2} (h : np n n a.1 a.2 = none) : Row n a []
  | more {a b : St2} {r : List St2} (h : np n n a.1 a.2 = some b) (s : sizes n b = true) (t : Row n b r) : Row n a (b :: r)
theorem later_row {n : Nat} : ∀ {f : Nat} {a : St2} {r : List St2}, later n f a = some r → Row n a r
  | 0, _, _, h => by cases h
  | f + 1, a, r, h => by
    unfold later at h
    split at h
    · rename_i e
      cases h
      exact .last e
    · rename_i b e
      by_cases hs : sizes n b = true
      · rw [if_pos hs] at h
        cases el : later n f b with
        | none =>
          rw [el] at h
          cases h
        | some r' =>
          rw [el] at h
          cases h
          exact .more e hs (later_row el)
      · rw [if_neg hs] at h
        cases h
theorem row_at {n : Nat} : ∀ {r : List St2} {a : St2} {i : Nat} {x : St2}, Row n a r → sizes n a = true → (a :: r)[i]? = some x → sizes n x = true ∧ np n n x.1 x.2 = (a :: r)[i + 1]?
  | [], a, 0, x, h, hs, e => by
    cases e
    cases h with
    | last h => exact ⟨hs, by rw [h]; rfl⟩
  | [], a, i + 1, x, h, hs, e => by simp at e
  | b :: r, a, 0, x, h, hs, e => by
    cases e
    cases h with
    | more h s t => exact ⟨hs, by rw [h]; rfl⟩
  | b :: r, a, i + 1, x, h, hs, e => by
    cases h with
    | more h s t => exact row_at (i := i) t s (by simpa using e)

/-! ### the walk -/
def vAt (n i : Nat) : V := if i < n then .int i else .non
def dAt (n i : Nat) : D := if i < n then .int i else .none
def Itp (n : Nat) (qs : List St2) : It :=
  ⟨fun i _ => i < qs.length, fun i H v H' => ∃ T a, qs[i]? = some a ∧ v = .ref T ∧ H T = none ∧ H' = upd H T (.tup (a.1.map (vAt n))), fun i _ => i = qs.length⟩
theorem vals_pick {n : Nat} {acc : Array Value} (h : ItemsOf (fun i v => ∃ t, v = .int (0 + i * 1) t) acc n) : ∀ ix : List Nat, Vals (ix.map (vAt n)) (pick acc ix)
  | [] => .nil
  | i :: ix => by
    refine .cons ?_ (vals_pick h ix)
    show RelV (vAt n i) (acc.getD i .none)
    unfold vAt
    by_cases hi : i < n
    · rw [if_pos hi]
      have hs : i < acc.size := by rw [h.1]; exact hi
      have e : acc[i]? = some acc[i] := Array.getElem?_eq_getElem hs
      obtain ⟨t, et⟩ := h.2 i _ e
      refine ⟨t, ?_⟩
      rw [Array.getD_eq_getD_getElem?, e]
      show acc[i] = _
      rw [et]
      congr 1
      omega
    · rw [if_neg hi]
      have e : acc[i]? = none := Array.getElem?_eq_none (by rw [h.1]; omega)
      rw [Array.getD_eq_getD_getElem?, e]
      rfl
theorem sizes_ok {n : Nat} {a : St2} (h : sizes n a = true) : a.1.length = n ∧ a.2.length = n := by
  unfold sizes at h
  rw [Bool.and_eq_true, beq_iff_eq, beq_iff_eq] at h
  exact h
def tn (n it tt : Nat) (acc : Array Value) (qs : List St2) (i : Nat) (h : Heap) : Prop :=
  h.get? tt = some { cls := .type "tuple", data := .seq acc } ∧ ∃ last, (i = 0 ∧ h.get? it = some (ob tt 0 n last ((first n).1 ++ (first n).2))) ∨ ∃ j a, i = j + 1 ∧ qs[j]? = some a ∧ h.get? it = some (ob tt 1 n last (a.1 ++ a.2))
theorem turn_perm {P : Program} {w : World} {K : PySem.W.Frag} {tg : Expr} {n : Nat} (it tt : Addr) (hne : it ≠ tt) {acc : Array Value} {r : List St2} (hn : n ≤ 1000) (ha : ItemsOf (fun i v => ∃ t, v = .int (0 + i * 1) t) acc n) (hr : Row n (first n) r) :
    Turn P w K tg (Itp n (first n :: r)) [it, tt] it (tn n it tt acc (first n :: r)) where
  mem := by simp
  obj := fun i h st b hb => by
    obtain ⟨h1, last, h2⟩ := st
    rcases List.mem_cons.mp hb with z | z
    · rw [z]
      rcases h2 with ⟨_, h2⟩ | ⟨j, a, _, _, h2⟩
      · exact ⟨_, h2, fun v q => by cases q⟩
      · exact ⟨_, h2, fun v q => by cases q⟩
    · rw [List.mem_singleton.mp z]
      exact ⟨_, h1, fun v q => by cases q⟩
  keep := fun i h h' st k => by
    obtain ⟨h1, last, h2⟩ := st
    refine ⟨k tt (by simp) _ h1, last, ?_⟩
    rcases h2 with ⟨e, h2⟩ | ⟨j, a, e1, e2, h2⟩
    · exact .inl ⟨e, k it (by simp) _ h2⟩
    · exact .inr ⟨j, a, e1, e2, k it (by simp) _ h2⟩
  item := by
    intro X hP hw hK hc i pins s σ H E I hf st hg
    subst hP hw hK
    obtain ⟨h1, last, h2⟩ := st
    have pt : s.heap.IsTuple tt acc := ⟨_, h1, rfl, 0, rfl⟩
    have fin : ∀ (b : St2) (h' : Heap), (first n :: r)[i]? = some b → h'.get? it = some (ob tt 1 n (.ref s.heap.objs.size) (b.1 ++ b.2)) → h'.get? s.heap.objs.size = some { cls := .type "tuple", data := .seq (pick acc b.1).toArray } → (∀ b o, b ≠ it → s.heap.get? b = some o → h'.get? b = some o) →
        ∃ u, some (Value.ref s.heap.objs.size) = some u ∧ wpAny (model X.prog X.w) X.A (letOwnedTupleGo tg (.ref it) u) (fun _ s2 => ∃ x H', Inv X pins σ H' s2 ∧ RelV x u ∧ (Itp n (first n :: r)).yld i H x H' ∧ tn n it tt acc (first n :: r) (i + 1) s2.heap ∧ ∀ b ∈ [it, tt], H' b = none) E { s with heap := h' } := fun b h' eb g1 g2 g3 => by
      refine ⟨_, rfl, go_of (s := { s with heap := h' }) g1 rfl rfl (by decide) ?_⟩
      obtain ⟨z1, z2⟩ := sizes_ok (row_at hr (first_sizes n) eb).1
      have new : ObjOk X.prog X.w (upd H s.heap.objs.size (.tup (b.1.map (vAt n)))) h' s.heap.objs.size (.tup (b.1.map (vAt n))) :=
        ⟨by rw [List.length_map, z1, sizeLine_eq]; omega, pick acc b.1, vals_pick ha b.1, ⟨_, g2, rfl, _, rfl⟩⟩
      have I1 : Inv X pins σ (upd H s.heap.objs.size (.tup (b.1.map (vAt n)))) { s with heap := h' } :=
        I.turnedNew (t' := s.toks) (ch := [it, tt]) (fun c o hc e => g3 c o (fun z => hc (by simp [z])) e) hf (Nat.le_refl _) new
      refine ⟨.ref s.heap.objs.size, _, I1, rfl, ⟨_, b, eb, rfl, I.hok.fresh (Nat.le_refl _), rfl⟩, ⟨g3 tt _ (Ne.symm hne) h1, _, .inr ⟨i, b, rfl, eb, g1⟩⟩, fun c hc => ?_⟩
      have hlt : c < s.heap.objs.size := by
        rcases List.mem_cons.mp hc with z | z
        · rw [z]
          rcases h2 with ⟨_, h2⟩ | ⟨j, a, _, _, h2⟩ <;> exact Heap.lt_size h2
        · rw [List.mem_singleton.mp z]
          exact Heap.lt_size h1
      rw [upd_ne (Nat.ne_of_lt hlt)]
      exact (hf c hc).1
    rcases h2 with ⟨e, h2⟩ | ⟨j, a, e1, e2, h2⟩
    · subst e
      refine next_first h2 pt ha.1 hn fun h' g1 g2 g3 => fin (first n) h' rfl g1 ?_ g3
      have et : ((first n).1 ++ (first n).2).take n = (first n).1 := by
        rw [List.take_append_of_le_length (by unfold first; simp), List.take_of_length_le (by unfold first; simp)]
      rw [et] at g2
      exact g2
    · subst e1
      obtain ⟨z, q⟩ := row_at hr (first_sizes n) e2
      obtain ⟨z1, z2⟩ := sizes_ok z
      have hg' : j + 1 < (first n :: r).length := hg
      have eb : (first n :: r)[j + 1]? = some (first n :: r)[j + 1] := List.getElem?_eq_getElem hg'
      rw [eb] at q
      obtain ⟨y1, y2⟩ := sizes_ok (row_at hr (first_sizes n) eb).1
      have et : (a.1 ++ a.2).take n = a.1 := by
        rw [← z1, List.take_left]
      have ed : (a.1 ++ a.2).drop n = a.2 := by
        rw [← z1, List.drop_left]
      generalize hb : (first n :: r)[j + 1] = b at eb q y1 y2
      refine next_more (ix := b.1) (cy := b.2) h2 pt ha.1 hn (by rw [et, ed, q]) (by rw [List.length_append]; omega) fun h' g1 g2 g3 => fin b h' eb g1 ?_ g3
      rw [List.take_of_length_le (Nat.le_of_eq y1)] at g2
      exact g2
  done := by
    intro X hP hw hK hc i pins s σ H E I hf st hg
    subst hP hw hK
    obtain ⟨h1, last, h2⟩ := st
    have pt : s.heap.IsTuple tt acc := ⟨_, h1, rfl, 0, rfl⟩
    obtain ⟨f0, f1, f2, f3, f4, f5⟩ := hf it (by simp)
    have hg' : i = (first n :: r).length := hg
    rcases h2 with ⟨e, h2⟩ | ⟨j, a, e1, e2, h2⟩
    · rw [e] at hg'
      cases hg'
    · obtain ⟨z, q⟩ := row_at hr (first_sizes n) e2
      obtain ⟨z1, z2⟩ := sizes_ok z
      have et : (a.1 ++ a.2).take n = a.1 := by
        rw [← z1, List.take_left]
      have ed : (a.1 ++ a.2).drop n = a.2 := by
        rw [← z1, List.drop_left]
      rw [← e1, hg', List.getElem?_eq_none (Nat.le_refl _)] at q
      exact next_end (I.ok.hd hc) h2 pt ha.1 (by rw [et, ed, q]) fun h' g3 => ⟨rfl, I.turned (t' := s.toks) g3 f0 f1 f3 f4 f5⟩
  self := fun A i s Q E st h => by
    obtain ⟨h1, last, h2⟩ := st
    rcases h2 with ⟨_, h2⟩ | ⟨j, a, _, _, h2⟩
    · exact iter_ok h2 h
    · exact iter_ok h2 h
end Pm
/-- permutations(range(n)) -/
def permD (n : Nat) : Option (List D) := (Pm.states n).map fun qs => qs.map fun a => .tuple (a.1.map (Pm.dAt n))
def fPerm (f : FE) : FI := fun s => (f s).bind fun r s1 => match r with
  | .imm (.int j) => if 0 ≤ j ∧ j ≤ 1000 then (match permD j.toNat with
    | some ds => .ok ds s1
    | none => .no) else .no
  | _ => .no
theorem dps_at {K : PySem.W.Frag} {B : Hp} (n : Nat) : ∀ ix : List Nat, DpAll K B (ix.map (Pm.vAt n)) (ix.map (Pm.dAt n))
  | [] => .nil
  | i :: ix => by
    refine .cons ?_ (dps_at n ix)
    unfold Pm.vAt Pm.dAt
    split
    · exact .int _
    · exact .non
theorem itd_perm {K : PySem.W.Frag} {B : Hp} (n : Nat) (qs : List Pm.St2) : ItD K B (Pm.Itp n qs) (qs.map fun a => .tuple (a.1.map (Pm.dAt n))) := fun B2 H2 b1 b2 => by
  refine ⟨by rw [List.length_map]; rfl, fun i d e => ?_⟩
  rw [List.getElem?_map] at e
  cases ea : qs[i]? with
  | none =>
    rw [ea] at e
    cases e
  | some a =>
    rw [ea] at e
    cases e
    refine ⟨(List.getElem?_eq_some_iff.mp ea).1, fun x H3 y => ?_⟩
    obtain ⟨T, a', e1, rfl, hT, rfl⟩ := y
    rw [ea] at e1
    cases e1
    exact ⟨upd B2 T (.tup (a.1.map (Pm.vAt n))), .newB b2 hT, .tup (SqT.of upd_same) (dps_at n a.1)⟩
def iPerm (ta : TE) : TI := fun σ H R => tRg1 ta σ H fun a0 b H1 => a0 = 0 ∧ ∃ (n : Nat) (r : List Pm.St2), b = (n : Nat) ∧ n ≤ 1000 ∧ Pm.Row n (Pm.first n) r ∧ R (Pm.Itp n (Pm.first n :: r)) H1
section
variable {X : Cx} {p : Pr} {W : WX} {f : FE} {a tg : Expr} {pos p1 p2 pos2 : Pos} {ta : TE}
theorem pi_perm {x : Str} (hc : X.calm = true) (hg : Gl X x) (hm : X.mg x = some (.type "itertools.permutations")) (hg2 : Gl X "range") (hm2 : X.mg "range" = none) (ha : PE X a ta) (hd : (x == ("__debug__" : Str)) = false := by decide) (h1 : starEach [a] X.env = (false, eval a X.env) :: starEach [] X.env := by rfl)
    (h2 : starEach [Expr.Call (.Name "range" p2) [a] [] pos2] X.env = (false, eval (Expr.Call (.Name "range" p2) [a] [] pos2) X.env) :: starEach [] X.env := by rfl) :
    PI X tg (.Call (.Name x p1) [.Call (.Name "range" p2) [a] [] pos2] [] pos) (iPerm ta) := by
  refine ⟨fun pins s σ H R I h => ?_⟩
  refine Call_ (ld_glob I hg hm (PyProof.Rows.callWith_type1 (args_cons (thn (prg_1 (pos := pos2) (p := p2) hg2 hm2 ha h1 pins s σ H (fun a0 b H1 => a0 = 0 ∧ ∃ (n : Nat) (r : List Pm.St2), b = (n : Nat) ∧ n ≤ 1000 ∧ Pm.Row n (Pm.first n) r ∧ R (Pm.Itp n (Pm.first n :: r)) H1) I ?_) fun x s1 ⟨r, a0, b, t, u, v, H1, ex, hr, I1, e0, n, qs, eb, hn, hrow, q⟩ => args_nil ?_) h2) h2) hd)
  · exact h
  · subst ex e0 eb
    have hd := I1.ok.hd hc
    refine Pm.call_new (n := n) hd hr (small_one (by omega) (by omega) (by omega) (by omega)) (by rw [rangeSize_nat]; omega) hn fun h' tk acc hk hacc => ?_
    have e2 : (h'.push { cls := .type "tuple", data := .seq acc }).objs.size = h'.objs.size + 1 := Heap.size_push ..
    have g1 : ((h'.push { cls := .type "tuple", data := .seq acc }).push (Pm.ob h'.objs.size 0 n .none (List.range n ++ (List.range n).map fun i => n - i))).get? (h'.objs.size + 1) = some (Pm.ob h'.objs.size 0 n .none (List.range n ++ (List.range n).map fun i => n - i)) := by
      rw [← e2]
      exact Heap.get?_push_size _ rfl
    have g2 : ((h'.push { cls := .type "tuple", data := .seq acc }).push (Pm.ob h'.objs.size 0 n .none (List.range n ++ (List.range n).map fun i => n - i))).get? h'.objs.size = some { cls := .type "tuple", data := .seq acc } := Heap.get?_push_of_some _ (Heap.get?_push_size _ rfl)
    have I0 : Inv X pins σ H1 { s1 with heap := h', toks := tk } := I1.kept (t' := tk) hk
    have I2 : Inv X pins σ H1 { s1 with heap := (h'.push { cls := .type "tuple", data := .seq acc }).push (Pm.ob h'.objs.size 0 n .none (List.range n ++ (List.range n).map fun i => n - i)), toks := tk } := I0.kept (t' := tk) fun b o e => Heap.get?_push_of_some _ (Heap.get?_push_of_some _ e)
    refine Pm.iter_ok (n := n) g1 ⟨h'.objs.size + 1, [h'.objs.size + 1, h'.objs.size], _, _, H1, rfl, I2, Pm.turn_perm (h'.objs.size + 1) h'.objs.size (Nat.succ_ne_self _) hn hacc hrow, ⟨g2, .none, .inl ⟨rfl, g1⟩⟩, fun b hb => ?_, q⟩
    have hle : h'.objs.size ≤ b := by
      rcases List.mem_cons.mp hb with z | z
      · rw [z]; exact Nat.le_add_right _ _
      · rw [List.mem_singleton.mp z]; exact Nat.le_refl _
    exact I0.fpOk hle (I0.hok.fresh hle)
theorem di_perm {x : Str} (hc : X.calm = true) (hg : Gl X x) (hm : X.mg x = some (.type "itertools.permutations")) (hg2 : Gl X "range") (hm2 : X.mg "range" = none) (ha : PE X a (tE p W f)) (hd : (x == ("__debug__" : Str)) = false := by decide) (h1 : starEach [a] X.env = (false, eval a X.env) :: starEach [] X.env := by rfl)
    (h2 : starEach [Expr.Call (.Name "range" p2) [a] [] pos2] X.env = (false, eval (Expr.Call (.Name "range" p2) [a] [] pos2) X.env) :: starEach [] X.env := by rfl) :
    PI X tg (.Call (.Name x p1) [.Call (.Name "range" p2) [a] [] pos2] [] pos) (tI p W (fPerm f)) := PI.imp (pi_perm hc hg hm hg2 hm2 ha hd h1 h2) fun σ H R h => by
  obtain ⟨B, s, ok, q⟩ := h
  refine ⟨B, s, ok, run_mono (run_bind q) fun r s1 B1 H1 x1 ok1 k v hv => ?_⟩
  split at k
  · rename_i j
    by_cases hj : 0 ≤ j ∧ j ≤ 1000
    · rw [if_pos hj] at k
      unfold permD at k
      cases es : Pm.states j.toNat with
      | none =>
        rw [es] at k
        exact k.elim
      | some qs =>
        rw [es] at k
        cases hv
        unfold Pm.states at es
        cases el : Pm.later j.toNat 1000000 (Pm.first j.toNat) with
        | none =>
          rw [el] at es
          cases es
        | some r =>
          rw [el] at es
          cases es
          exact ⟨j, rfl, rfl, j.toNat, r, by omega, by omega, Pm.later_row el, k B1 H1 .refl ok1 _ (itd_perm _ _)⟩
    · rw [if_neg hj] at k
      exact k.elim
  · exact k.elim
end
end DL
end

set_option Elab.async false
set_option linter.all false
set_option maxRecDepth 100000
set_option maxHeartbeats 4000000
noncomputable section
namespace DL
open PySem PySem.Spec PyProof.Rows L2
section
variable {P : Program} {w : World} {K : PySem.W.Frag} {mg : Str → Option Value} {base : Heap}
/-- no promise at all: where the fuel ends -/
theorem fn_noD {x qual : Str} {st : Stmt} {f : Addr} {fd : FuncData} {N ps : List Str} {k : Nat} {C : Nat → Option Addr} {fld : Nat → Str} (F : Fun K x qual st f fd) (S : FnScope N ps (defScope st)) :
    FnOk P w K mg base (L2.CX P w) (k + 1) f fd ps (spD K C fld fun _ => .no) := by
  refine F.okX S (fun vs H Q E h => ?_) (fun cdv A outer s H vs Q E hr h => ?_)
  · obtain ⟨_, _, _, _, h⟩ := h
    exact h.elim
  · obtain ⟨_, _, _, _, h⟩ := h
    exact h.elim
end
/-! ### name = [.. for ..] on one row -/
section
variable {X : Cx} {p : Pr} {W : WX} {it : FI} {is : List Nat} {g : D → SD → Option SD} {cond : FT} {fe : FE} {elt tg iter : Expr} {ifs : List Expr} {scope : Scope} {own : List (Str × Nat)} {y : Str} {py pos spos : Pos} {t : TG}
theorem ds_lcI (i : Nat) (hc : X.calm = true) (hN : X.N.Nodup) (hi : PI X tg iter (tI p W it)) (ok : BlkOk X.N X.env.scope scope own) (hg : ∀ (s : Shared) (H : Hp) (C : Addr) (cl : List (Str × Addr)) (fp : List Addr), PG (X.blk s H scope (compEnvC scope cl C X.env) fp) tg t) (tq : TqD p t is g)
    (ht : ∀ (s : Shared) (H : Hp) (C : Addr) (cl : List (Str × Addr)) (fp : List Addr), PTs (X.blk s H scope (compEnvC scope cl C X.env) fp) ifs (tT p WF cond)) (he : ∀ (s : Shared) (H : Hp) (C : Addr) (cl : List (Str × Addr)) (fp : List Addr), PE (X.blk s H scope (compEnvC scope cl C X.env) fp) elt (tE p WF fe))
    (hsub : ∀ i ∈ is, i ∈ own.map (·.2)) (hy : X.N[i]? = some y := by rfl) (hyl : X.env.scope.names.lookup y = some .local := by rfl) (hk : X.env.scope.kind = .function := by rfl) (hl : (py.line == pos.line) = true := by rfl)
    (hsw : (scope.names.any fun (n, k) => n == y && (k == .local || k == .cell)) = false := by rfl) (hs : ∀ x, foldedSetIterable iter X.env x = pure x := by intro _; rfl) :
    PS X (.Assign [.Name y py] (.ListComp elt [⟨tg, iter, ifs, 0⟩] scope pos) spos) (tS p W (fSetI i (fLc it (own.map (·.2)) g cond fe))) :=
  PS.imp (ps_setLc hc hN hy hyl (sw_true hk hyl hl hsw) hi ok hg ht he hs) fun Dn σ H h => lc_of tq.run tq.own hsub (setI_of h)
theorem ds_lcO (i : Nat) (hc : X.calm = true) (hN : X.N.Nodup) (hi : PI X tg iter (tI p W it)) (ok : BlkOk X.N X.env.scope scope own) (hg : ∀ (s : Shared) (H : Hp) (C : Addr) (cl : List (Str × Addr)) (fp : List Addr), PG (X.blk s H scope (compEnvC scope cl C X.env) fp) tg t) (tq : TqD p t is g)
    (ht : ∀ (s : Shared) (H : Hp) (C : Addr) (cl : List (Str × Addr)) (fp : List Addr), PTs (X.blk s H scope (compEnvC scope cl C X.env) fp) ifs (tT p WF cond)) (he : ∀ (s : Shared) (H : Hp) (C : Addr) (cl : List (Str × Addr)) (fp : List Addr), PE (X.blk s H scope (compEnvC scope cl C X.env) fp) elt (tE p WF fe))
    (hsub : ∀ i ∈ is, i ∈ own.map (·.2)) (hy : X.N[i]? = some y := by rfl) (hyl : X.env.scope.names.lookup y = some .local := by rfl) (hk : X.env.scope.kind = .function := by rfl) (hl : (py.line == pos.line) = true := by rfl)
    (hsw : (scope.names.any fun (n, k) => n == y && (k == .local || k == .cell)) = false := by rfl) (hs : ∀ x, foldedSetIterable iter X.env x = pure x := by intro _; rfl) :
    PS X (.Assign [.Name y py] (.ListComp elt [⟨tg, iter, ifs, 0⟩] scope pos) spos) (tS p W (fSetO i (fLc it (own.map (·.2)) g cond fe))) :=
  PS.imp (ps_setLc hc hN hy hyl (sw_true hk hyl hl hsw) hi ok hg ht he hs) fun Dn σ H h => lc_of tq.run tq.own hsub (setO_of h)
end
end DL
end

set_option Elab.async false
set_option linter.all false
set_option maxRecDepth 100000
set_option maxHeartbeats 4000000
noncomputable section
namespace DL
open PySem PySem.Spec PyProof.Rows

/-! ### how the functions of data run: rows for simp -/
theorem g0 {x : Option DV} {r : SD} : getS (x :: r) 0 = some x := rfl
theorem gs {x : Option DV} {r : SD} {n : Nat} : getS (x :: r) (n + 1) = getS r n := rfl
theorem z0 {x v : Option DV} {r : SD} : setS (x :: r) 0 v = v :: r := rfl
theorem zs {x v : Option DV} {r : SD} {n : Nat} : setS (x :: r) (n + 1) v = x :: setS r n v := rfl

/-! ### comprehensions in parts -/
section
variable {g : D → SD → Option SD} {cond : FT} {elt : FE} {vs : List Nat}
theorem loopC_cons {d : D} {ds acc : List D} {s : SD} : loopC g cond elt vs (d :: ds) s acc = match g d s with
    | none => .no
    | some s1 => match cond s1 with
      | .ok true s2 => (match elt s2 with
        | .ok (.imm x) s3 => if acc.length < mx then loopC g cond elt vs ds (wipeD s3 vs) (acc ++ [x]) else .no
        | _ => .no)
      | .ok false s2 => loopC g cond elt vs ds (wipeD s2 vs) acc
      | _ => .no := rfl
theorem loopC_app : ∀ (d1 d2 : List D) (s : SD) (acc : List D), loopC g cond elt vs (d1 ++ d2) s acc = match loopC g cond elt vs d1 s acc with
    | .ok a s' => loopC g cond elt vs d2 s' a
    | .ex e s' => .ex e s'
    | .no => .no
  | [], d2, s, acc => rfl
  | d :: d1, d2, s, acc => by
    rw [List.cons_append, loopC_cons, loopC_cons]
    cases g d s with
    | none => rfl
    | some s1 =>
      dsimp only
      cases cond s1 with
      | no => rfl
      | ex _ _ => rfl
      | ok b s2 =>
        cases b with
        | false => exact loopC_app d1 d2 _ _
        | true =>
          dsimp only
          cases elt s2 with
          | no => rfl
          | ex _ _ => rfl
          | ok r s3 =>
            cases r with
            | tmp _ => rfl
            | slot _ => rfl
            | imm x =>
              dsimp only
              by_cases h : acc.length < mx
              · rw [if_pos h, if_pos h]
                exact loopC_app d1 d2 _ _
              · rw [if_neg h, if_neg h]
theorem loopC_len : ∀ (ds : List D) (s s' : SD) (acc out : List D), loopC g cond elt vs ds s acc = .ok out s' → acc.length ≤ out.length
  | [], s, s', acc, out, h => by
    cases h
    exact Nat.le_refl _
  | d :: ds, s, s', acc, out, h => by
    unfold loopC at h
    split at h
    · cases h
    · split at h
      · split at h
        · split at h
          · have := loopC_len ds _ _ _ _ h
            rw [List.length_append] at this
            exact Nat.le_trans (Nat.le_add_right _ _) this
          · cases h
        · cases h
      · exact loopC_len ds _ _ _ _ h
      · cases h
theorem loopC_pre (pre : List D) : ∀ (ds : List D) (s s' : SD) (acc out : List D), loopC g cond elt vs ds s acc = .ok out s' → pre.length + out.length ≤ mx → loopC g cond elt vs ds s (pre ++ acc) = .ok (pre ++ out) s'
  | [], s, s', acc, out, h, hl => by
    cases h
    rfl
  | d :: ds, s, s', acc, out, h, hl => by
    unfold loopC at h ⊢
    cases eg : g d s with
    | none =>
      rw [eg] at h
      cases h
    | some s1 =>
      rw [eg] at h
      dsimp only at h ⊢
      cases ec : cond s1 with
      | no =>
        rw [ec] at h
        cases h
      | ex _ _ =>
        rw [ec] at h
        cases h
      | ok b s2 =>
        rw [ec] at h
        cases b with
        | false =>
          dsimp only at h ⊢
          exact loopC_pre pre ds _ _ _ _ h hl
        | true =>
          dsimp only at h ⊢
          cases ee : elt s2 with
          | no =>
            rw [ee] at h
            cases h
          | ex _ _ =>
            rw [ee] at h
            cases h
          | ok r s3 =>
            rw [ee] at h
            cases r with
            | tmp _ => cases h
            | slot _ => cases h
            | imm x =>
              dsimp only at h ⊢
              by_cases hm : acc.length < mx
              · rw [if_pos hm] at h
                have hq := loopC_len ds _ _ _ _ h
                rw [List.length_append, List.length_singleton] at hq
                rw [if_pos (by rw [List.length_append]; omega)]
                have := loopC_pre pre ds _ _ _ _ h hl
                rw [← List.append_assoc] at this
                exact this
              · rw [if_neg hm] at h
                cases h
/-- part by part: each part from nothing, the state kept -/
theorem loopC_step {d1 d2 o1 out acc : List D} {s s' : SD} (h1 : loopC g cond elt vs d1 s [] = .ok o1 s) (hl : acc.length + o1.length ≤ mx) (h2 : loopC g cond elt vs d2 s (acc ++ o1) = .ok out s') : loopC g cond elt vs (d1 ++ d2) s acc = .ok out s' := by
  have q := loopC_pre acc d1 s s [] o1 h1 hl
  rw [List.append_nil] at q
  rw [loopC_app, q]
  exact h2
end

/-! ### a code of data: equal data have equal codes -/
mutual
def codeD (n : Nat) : D → Nat
  | .none => n * 256 + 1
  | .bool b => (n * 256 + 2) * 256 + (if b then 1 else 0)
  | .int i => (n * 256 + 2) * 256 + i.toNat
  | .str x => n * 256 + 3 + x.length
  | .list xs => codeL (n * 256 + 4) xs
  | .tuple xs => codeL (n * 256 + 5) xs
  | .dict _ => n
def codeL (n : Nat) : List D → Nat
  | [] => n * 256 + 6
  | x :: xs => codeL (codeD n x) xs
end
mutual
theorem code_eqv : ∀ (x y : D) (n : Nat), PyData.eqv x y = true → codeD n x = codeD n y
  | .none, y, n, h => by
    cases y with
    | none => rfl
    | _ => simp [PyData.eqv] at h
  | .bool a, y, n, h => by
    cases y with
    | bool b =>
      simp only [PyData.eqv, beq_iff_eq] at h
      rw [h]
    | int j =>
      simp only [PyData.eqv, beq_iff_eq] at h
      subst h
      unfold codeD
      cases a <;> rfl
    | _ => simp [PyData.eqv] at h
  | .int i, y, n, h => by
    cases y with
    | bool b =>
      simp only [PyData.eqv, beq_iff_eq] at h
      subst h
      unfold codeD
      cases b <;> rfl
    | int j =>
      simp only [PyData.eqv, beq_iff_eq] at h
      rw [h]
    | _ => simp [PyData.eqv] at h
  | .str a, y, n, h => by
    cases y with
    | str b =>
      simp only [PyData.eqv, beq_iff_eq] at h
      rw [h]
    | _ => simp [PyData.eqv] at h
  | .list xs, y, n, h => by
    cases y with
    | list ys =>
      simp only [PyData.eqv] at h
      unfold codeD
      exact codes_eqv xs ys _ h
    | _ => simp [PyData.eqv] at h
  | .tuple xs, y, n, h => by
    cases y with
    | tuple ys =>
      simp only [PyData.eqv] at h
      unfold codeD
      exact codes_eqv xs ys _ h
    | _ => simp [PyData.eqv] at h
  | .dict xs, y, n, h => by
    cases y <;> simp [PyData.eqv] at h
theorem codes_eqv : ∀ (xs ys : List D) (n : Nat), PyData.eqvAll xs ys = true → codeL n xs = codeL n ys
  | [], ys, n, h => by
    cases ys with
    | nil => rfl
    | cons y ys => simp [PyData.eqvAll] at h
  | x :: xs, ys, n, h => by
    cases ys with
    | nil => simp [PyData.eqvAll] at h
    | cons y ys =>
      simp only [PyData.eqvAll, Bool.and_eq_true] at h
      unfold codeL
      rw [code_eqv x y n h.1]
      exact codes_eqv xs ys _ h.2
end
theorem code_ne {x y : D} (h : codeD 1 x ≠ codeD 1 y) : PyData.eqv x y = false := by
  cases e : PyData.eqv x y with
  | false => rfl
  | true => exact absurd (code_eqv x y 1 e) h
end DL
end

set_option Elab.async false
set_option linter.all false
set_option maxRecDepth 100000
set_option maxHeartbeats 8000000
noncomputable section
namespace DLP
open PySem PySem.Spec PyProof.Rows L2 DL
def topS (i : Nat) : Stmt := PySem.Challenge.pw_whotouches_k67_orders_listed_and_numbere.main.body.getD i (.Pass ⟨0, 0, 0, 0⟩)
def clsB : Stmt → List Stmt
  | .ClassDef (body := b) .. => b
  | _ => []
def iniS (i j : Nat) : Stmt := (clsB (topS i)).getD j (.Pass ⟨0, 0, 0, 0⟩)
theorem hu65 {k : Nat} {A : Around} (r : Room k A) : A.units + 65 < cLine := by
  have := r.un
  omega
def fld : Nat → Str
  | 4 => "most"
  | 5 => "bar"
  | _ => ""
def mt_FloorError : Nat → Bool
  | 0 => true
  | 1 => true
  | 2 => true
  | 3 => true
  | 4 => true
  | 5 => true
  | _ => false
def mt_NoCount : Nat → Bool
  | 3 => true
  | _ => false
def mt_NoNumber : Nat → Bool
  | 2 => true
  | _ => false
def mt_TooMany : Nat → Bool
  | 4 => true
  | _ => false
structure G (K : PySem.W.Frag) (mg : Str → Option Value) where
  a_is_integer : Addr
  d_is_integer : FuncData
  F_is_integer : Fun K "is_integer" "is_integer" (topS 10) a_is_integer d_is_integer
  b_is_integer : Binds K d_is_integer ["thing"] []
  g_is_integer : mg "is_integer" = some (.ref a_is_integer)
  a_is_order : Addr
  d_is_order : FuncData
  F_is_order : Fun K "is_order" "is_order" (topS 14) a_is_order d_is_order
  b_is_order : Binds K d_is_order ["thing"] []
  g_is_order : mg "is_order" = some (.ref a_is_order)
  a_need_order : Addr
  d_need_order : FuncData
  F_need_order : Fun K "need_order" "need_order" (topS 15) a_need_order d_need_order
  b_need_order : Binds K d_need_order ["thing"] []
  g_need_order : mg "need_order" = some (.ref a_need_order)
  a_is_bar : Addr
  d_is_bar : FuncData
  F_is_bar : Fun K "is_bar" "is_bar" (topS 16) a_is_bar d_is_bar
  b_is_bar : Binds K d_is_bar ["order", "i", "j", "k"] []
  g_is_bar : mg "is_bar" = some (.ref a_is_bar)
  a_first_bar : Addr
  d_first_bar : FuncData
  F_first_bar : Fun K "first_bar" "first_bar" (topS 17) a_first_bar d_first_bar
  b_first_bar : Binds K d_first_bar ["order"] []
  g_first_bar : mg "first_bar" = some (.ref a_first_bar)
  a_rooms_of_order : Addr
  d_rooms_of_order : FuncData
  F_rooms_of_order : Fun K "rooms_of_order" "rooms_of_order" (topS 18) a_rooms_of_order d_rooms_of_order
  b_rooms_of_order : Binds K d_rooms_of_order ["order"] []
  g_rooms_of_order : mg "rooms_of_order" = some (.ref a_rooms_of_order)
  a_floor_of_order : Addr
  d_floor_of_order : FuncData
  F_floor_of_order : Fun K "floor_of_order" "floor_of_order" (topS 19) a_floor_of_order d_floor_of_order
  b_floor_of_order : Binds K d_floor_of_order ["order"] []
  g_floor_of_order : mg "floor_of_order" = some (.ref a_floor_of_order)
  a_need_count : Addr
  d_need_count : FuncData
  F_need_count : Fun K "need_count" "need_count" (topS 20) a_need_count d_need_count
  b_need_count : Binds K d_need_count ["many", "most"] []
  g_need_count : mg "need_count" = some (.ref a_need_count)
  a_choices : Addr
  d_choices : FuncData
  F_choices : Fun K "choices" "choices" (topS 21) a_choices d_choices
  b_choices : Binds K d_choices ["many", "some"] []
  g_choices : mg "choices" = some (.ref a_choices)
  a_weak_count : Addr
  d_weak_count : FuncData
  F_weak_count : Fun K "weak_count" "weak_count" (topS 22) a_weak_count d_weak_count
  b_weak_count : Binds K d_weak_count ["many"] []
  g_weak_count : mg "weak_count" = some (.ref a_weak_count)
  a_orders : Addr
  d_orders : FuncData
  F_orders : Fun K "orders" "orders" (topS 23) a_orders d_orders
  b_orders : Binds K d_orders ["many"] []
  g_orders : mg "orders" = some (.ref a_orders)
  a_order_number : Addr
  d_order_number : FuncData
  F_order_number : Fun K "order_number" "order_number" (topS 25) a_order_number d_order_number
  b_order_number : Binds K d_order_number ["many", "number"] []
  g_order_number : mg "order_number" = some (.ref a_order_number)
  a__law_hand : Addr
  d__law_hand : FuncData
  F__law_hand : Fun K "_law_hand" "_law_hand" (topS 27) a__law_hand d__law_hand
  b__law_hand : Binds K d__law_hand ["script"] []
  g__law_hand : mg "_law_hand" = some (.ref a__law_hand)
  a__law_draw : Addr
  d__law_draw : FuncData
  F__law_draw : Fun K "_law_draw" "_law_draw" (topS 28) a__law_draw d__law_draw
  b__law_draw : Binds K d__law_draw ["hand", "many"] []
  g__law_draw : mg "_law_draw" = some (.ref a__law_draw)
  a__law_some : Addr
  d__law_some : FuncData
  F__law_some : Fun K "_law_some" "_law_some" (topS 29) a__law_some d__law_some
  b__law_some : Binds K d__law_some ["hand", "things"] []
  g__law_some : mg "_law_some" = some (.ref a__law_some)
  a__law_kept : Addr
  d__law_kept : FuncData
  F__law_kept : Fun K "_law_kept" "_law_kept" (topS 30) a__law_kept d__law_kept
  b__law_kept : Binds K d__law_kept ["told", "due"] []
  g__law_kept : mg "_law_kept" = some (.ref a__law_kept)
  a__law_pieces : Addr
  d__law_pieces : FuncData
  F__law_pieces : Fun K "_law_pieces" "_law_pieces" (topS 31) a__law_pieces d__law_pieces
  b__law_pieces : Binds K d__law_pieces ["rooms", "kind", "at"] []
  g__law_pieces : mg "_law_pieces" = some (.ref a__law_pieces)
  a__law_bound : Addr
  d__law_bound : FuncData
  F__law_bound : Fun K "_law_bound" "_law_bound" (topS 32) a__law_bound d__law_bound
  b__law_bound : Binds K d__law_bound ["kind", "at", "pieces"] []
  g__law_bound : mg "_law_bound" = some (.ref a__law_bound)
  a__law_bounds : Addr
  d__law_bounds : FuncData
  F__law_bounds : Fun K "_law_bounds" "_law_bounds" (topS 33) a__law_bounds d__law_bounds
  b__law_bounds : Binds K d__law_bounds ["rooms"] []
  g__law_bounds : mg "_law_bounds" = some (.ref a__law_bounds)
  a__law_named : Addr
  d__law_named : FuncData
  F__law_named : Fun K "_law_named" "_law_named" (topS 34) a__law_named d__law_named
  b__law_named : Binds K d__law_named ["rooms"] []
  g__law_named : mg "_law_named" = some (.ref a__law_named)
  a__law_first_bar : Addr
  d__law_first_bar : FuncData
  F__law_first_bar : Fun K "_law_first_bar" "_law_first_bar" (topS 35) a__law_first_bar d__law_first_bar
  b__law_first_bar : Binds K d__law_first_bar ["order"] []
  g__law_first_bar : mg "_law_first_bar" = some (.ref a__law_first_bar)
  a__law_all_orders : Addr
  d__law_all_orders : FuncData
  F__law_all_orders : Fun K "_law_all_orders" "_law_all_orders" (topS 36) a__law_all_orders d__law_all_orders
  b__law_all_orders : Binds K d__law_all_orders ["many"] []
  g__law_all_orders : mg "_law_all_orders" = some (.ref a__law_all_orders)
  a__law_refusal : Addr
  d__law_refusal : FuncData
  F__law_refusal : Fun K "_law_refusal" "_law_refusal" (topS 37) a__law_refusal d__law_refusal
  b__law_refusal : Binds K d__law_refusal ["kind", "many", "number"] []
  g__law_refusal : mg "_law_refusal" = some (.ref a__law_refusal)
  a_law : Addr
  d_law : FuncData
  F_law : Fun K "law" "law" (topS 38) a_law d_law
  b_law : Binds K d_law ["script"] []
  g_law : mg "law" = some (.ref a_law)
  t_MOST_ROOMS : Tok
  c_MOST_ROOMS : mg "MOST_ROOMS" = some (.int 24 t_MOST_ROOMS)
  t_MOST_COUNTED : Tok
  c_MOST_COUNTED : mg "MOST_COUNTED" = some (.int 200 t_MOST_COUNTED)
  t_MOST_LISTED : Tok
  c_MOST_LISTED : mg "MOST_LISTED" = some (.int 7 t_MOST_LISTED)
  z_abs : mg "abs" = none
  z_all : mg "all" = none
  z_bool : mg "bool" = none
  z_enumerate : mg "enumerate" = none
  z_int : mg "int" = none
  z_isinstance : mg "isinstance" = none
  z_len : mg "len" = none
  z_list : mg "list" = none
  z_max : mg "max" = none
  z_min : mg "min" = none
  z_range : mg "range" = none
  z_set : mg "set" = none
  z_sorted : mg "sorted" = none
  z_str : mg "str" = none
  z_tuple : mg "tuple" = none
  p_permutations : mg "permutations" = some (.type "itertools.permutations")
  a_FloorError : Addr
  g_FloorError : mg "FloorError" = some (.ref a_FloorError)
  q_FloorError : PySem.W.excIn K a_FloorError [.type "ValueError", .type "Exception", .type "BaseException", .type "object"] "ValueError.__new__" = true
  k_FloorError : PySem.W.keepIn K (.ref a_FloorError) = true
  s_FloorError : PySem.W.subIn K (.ref a_FloorError) (.type "BaseException") = some true
  t_FloorError : PySem.W.typeIn K (.ref a_FloorError) = some (.type "type")
  a_NoOrder : Addr
  g_NoOrder : mg "NoOrder" = some (.ref a_NoOrder)
  q_NoOrder : PySem.W.excIn K a_NoOrder [.type "ValueError", .type "Exception", .type "BaseException", .type "object"] "ValueError.__new__" = true
  k_NoOrder : PySem.W.keepIn K (.ref a_NoOrder) = true
  s_NoOrder : PySem.W.subIn K (.ref a_NoOrder) (.type "BaseException") = some true
  t_NoOrder : PySem.W.typeIn K (.ref a_NoOrder) = some (.type "type")
  a_NoNumber : Addr
  g_NoNumber : mg "NoNumber" = some (.ref a_NoNumber)
  q_NoNumber : PySem.W.excIn K a_NoNumber [.type "ValueError", .type "Exception", .type "BaseException", .type "object"] "ValueError.__new__" = true
  k_NoNumber : PySem.W.keepIn K (.ref a_NoNumber) = true
  s_NoNumber : PySem.W.subIn K (.ref a_NoNumber) (.type "BaseException") = some true
  t_NoNumber : PySem.W.typeIn K (.ref a_NoNumber) = some (.type "type")
  a_NoCount : Addr
  g_NoCount : mg "NoCount" = some (.ref a_NoCount)
  q_NoCount : PySem.W.excIn K a_NoCount [.type "ValueError", .type "Exception", .type "BaseException", .type "object"] "ValueError.__new__" = true
  k_NoCount : PySem.W.keepIn K (.ref a_NoCount) = true
  s_NoCount : PySem.W.subIn K (.ref a_NoCount) (.type "BaseException") = some true
  t_NoCount : PySem.W.typeIn K (.ref a_NoCount) = some (.type "type")
  a_TooMany : Addr
  g_TooMany : mg "TooMany" = some (.ref a_TooMany)
  o_TooMany : OexC K a_TooMany
  i_TooMany : Addr
  di_TooMany : FuncData
  I_TooMany : Fun K "__init__" "TooMany.__init__" (iniS 6 0) i_TooMany di_TooMany
  bI_TooMany : Binds K di_TooMany ["self", "most"] []
  iC_TooMany : PySem.W.findIn K (.ref a_TooMany) "__init__" = some (some (.ref i_TooMany))
  tI_TooMany : PySem.W.typeIn K (.ref i_TooMany) = some (.type "function")
  n_TooMany : PySem.W.findIn K (.ref a_TooMany) "most" = some none
  x_TooMany : XfC K a_TooMany
  a_BadOrder : Addr
  g_BadOrder : mg "BadOrder" = some (.ref a_BadOrder)
  o_BadOrder : OexC K a_BadOrder
  i_BadOrder : Addr
  di_BadOrder : FuncData
  I_BadOrder : Fun K "__init__" "BadOrder.__init__" (iniS 7 0) i_BadOrder di_BadOrder
  bI_BadOrder : Binds K di_BadOrder ["self", "bar"] []
  iC_BadOrder : PySem.W.findIn K (.ref a_BadOrder) "__init__" = some (some (.ref i_BadOrder))
  tI_BadOrder : PySem.W.typeIn K (.ref i_BadOrder) = some (.type "function")
  n_BadOrder : PySem.W.findIn K (.ref a_BadOrder) "bar" = some none
  x_BadOrder : XfC K a_BadOrder
  e_FloorError_FloorError : PySem.W.exmOne K (.ref a_FloorError) (.ref a_FloorError) = some true
  e_NoOrder_FloorError : PySem.W.exmOne K (.ref a_NoOrder) (.ref a_FloorError) = some true
  e_NoNumber_FloorError : PySem.W.exmOne K (.ref a_NoNumber) (.ref a_FloorError) = some true
  e_NoCount_FloorError : PySem.W.exmOne K (.ref a_NoCount) (.ref a_FloorError) = some true
  e_TooMany_FloorError : PySem.W.exmOne K (.ref a_TooMany) (.ref a_FloorError) = some true
  e_BadOrder_FloorError : PySem.W.exmOne K (.ref a_BadOrder) (.ref a_FloorError) = some true
  e_FloorError_NoCount : PySem.W.exmOne K (.ref a_FloorError) (.ref a_NoCount) = some false
  e_NoOrder_NoCount : PySem.W.exmOne K (.ref a_NoOrder) (.ref a_NoCount) = some false
  e_NoNumber_NoCount : PySem.W.exmOne K (.ref a_NoNumber) (.ref a_NoCount) = some false
  e_NoCount_NoCount : PySem.W.exmOne K (.ref a_NoCount) (.ref a_NoCount) = some true
  e_TooMany_NoCount : PySem.W.exmOne K (.ref a_TooMany) (.ref a_NoCount) = some false
  e_BadOrder_NoCount : PySem.W.exmOne K (.ref a_BadOrder) (.ref a_NoCount) = some false
  e_FloorError_NoNumber : PySem.W.exmOne K (.ref a_FloorError) (.ref a_NoNumber) = some false
  e_NoOrder_NoNumber : PySem.W.exmOne K (.ref a_NoOrder) (.ref a_NoNumber) = some false
  e_NoNumber_NoNumber : PySem.W.exmOne K (.ref a_NoNumber) (.ref a_NoNumber) = some true
  e_NoCount_NoNumber : PySem.W.exmOne K (.ref a_NoCount) (.ref a_NoNumber) = some false
  e_TooMany_NoNumber : PySem.W.exmOne K (.ref a_TooMany) (.ref a_NoNumber) = some false
  e_BadOrder_NoNumber : PySem.W.exmOne K (.ref a_BadOrder) (.ref a_NoNumber) = some false
  e_FloorError_TooMany : PySem.W.exmOne K (.ref a_FloorError) (.ref a_TooMany) = some false
  e_NoOrder_TooMany : PySem.W.exmOne K (.ref a_NoOrder) (.ref a_TooMany) = some false
  e_NoNumber_TooMany : PySem.W.exmOne K (.ref a_NoNumber) (.ref a_TooMany) = some false
  e_NoCount_TooMany : PySem.W.exmOne K (.ref a_NoCount) (.ref a_TooMany) = some false
  e_TooMany_TooMany : PySem.W.exmOne K (.ref a_TooMany) (.ref a_TooMany) = some true
  e_BadOrder_TooMany : PySem.W.exmOne K (.ref a_BadOrder) (.ref a_TooMany) = some false
section
variable {P : Program} {w : World} {K : PySem.W.Frag} {mg : Str → Option Value} {base : Heap}
def Cn (g : G K mg) : Nat → Option Addr
  | 0 => some g.a_FloorError
  | 1 => some g.a_NoOrder
  | 2 => some g.a_NoNumber
  | 3 => some g.a_NoCount
  | 4 => some g.a_TooMany
  | 5 => some g.a_BadOrder
  | _ => none
theorem m_FloorError (g : G K mg) : ∀ n C, Cn g n = some C → PySem.W.exmOne K (.ref C) (.ref g.a_FloorError) = some (mt_FloorError n) := fun n C h => by
  match n, h with
  | 0, h => cases h; exact g.e_FloorError_FloorError
  | 1, h => cases h; exact g.e_NoOrder_FloorError
  | 2, h => cases h; exact g.e_NoNumber_FloorError
  | 3, h => cases h; exact g.e_NoCount_FloorError
  | 4, h => cases h; exact g.e_TooMany_FloorError
  | 5, h => cases h; exact g.e_BadOrder_FloorError
  | _ + 6, h => cases h
theorem m_NoCount (g : G K mg) : ∀ n C, Cn g n = some C → PySem.W.exmOne K (.ref C) (.ref g.a_NoCount) = some (mt_NoCount n) := fun n C h => by
  match n, h with
  | 0, h => cases h; exact g.e_FloorError_NoCount
  | 1, h => cases h; exact g.e_NoOrder_NoCount
  | 2, h => cases h; exact g.e_NoNumber_NoCount
  | 3, h => cases h; exact g.e_NoCount_NoCount
  | 4, h => cases h; exact g.e_TooMany_NoCount
  | 5, h => cases h; exact g.e_BadOrder_NoCount
  | _ + 6, h => cases h
theorem m_NoNumber (g : G K mg) : ∀ n C, Cn g n = some C → PySem.W.exmOne K (.ref C) (.ref g.a_NoNumber) = some (mt_NoNumber n) := fun n C h => by
  match n, h with
  | 0, h => cases h; exact g.e_FloorError_NoNumber
  | 1, h => cases h; exact g.e_NoOrder_NoNumber
  | 2, h => cases h; exact g.e_NoNumber_NoNumber
  | 3, h => cases h; exact g.e_NoCount_NoNumber
  | 4, h => cases h; exact g.e_TooMany_NoNumber
  | 5, h => cases h; exact g.e_BadOrder_NoNumber
  | _ + 6, h => cases h
theorem m_TooMany (g : G K mg) : ∀ n C, Cn g n = some C → PySem.W.exmOne K (.ref C) (.ref g.a_TooMany) = some (mt_TooMany n) := fun n C h => by
  match n, h with
  | 0, h => cases h; exact g.e_FloorError_TooMany
  | 1, h => cases h; exact g.e_NoOrder_TooMany
  | 2, h => cases h; exact g.e_NoNumber_TooMany
  | 3, h => cases h; exact g.e_NoCount_TooMany
  | 4, h => cases h; exact g.e_TooMany_TooMany
  | 5, h => cases h; exact g.e_BadOrder_TooMany
  | _ + 6, h => cases h
theorem sI_TooMany : FnScope ["self", "most"] ["self", "most"] (defScope (iniS 6 0)) := ⟨rfl, rfl, rfl, by decide +kernel, rfl, by decide +kernel, by decide +kernel⟩
theorem fn_ini_TooMany (g : G K mg) : FnOk P w K mg base (L2.CX P w) 1 g.i_TooMany g.di_TooMany ["self", "most"] (spI1 g.a_TooMany "most") :=
  fn_init1 (k := 0) g.I_TooMany sI_TooMany rfl rfl g.o_TooMany g.n_TooMany fun cdv A outer s H E => pss_one (ps_ost (pv 0) (pv 1))
theorem sI_BadOrder : FnScope ["self", "bar"] ["self", "bar"] (defScope (iniS 7 0)) := ⟨rfl, rfl, rfl, by decide +kernel, rfl, by decide +kernel, by decide +kernel⟩
theorem fn_ini_BadOrder (g : G K mg) : FnOk P w K mg base (L2.CX P w) 1 g.i_BadOrder g.di_BadOrder ["self", "bar"] (spI1 g.a_BadOrder "bar") :=
  fn_init1 (k := 0) g.I_BadOrder sI_BadOrder rfl rfl g.o_BadOrder g.n_BadOrder fun cdv A outer s H E => pss_one (ps_ost (pv 0) (pv 1))
/-! ### is_integer -/
abbrev s_is_integer : Stmt := topS 10
theorem sc_is_integer : FnScope ["thing"] ["thing"] (defScope s_is_integer) := ⟨rfl, rfl, rfl, by decide +kernel, rfl, by decide +kernel, by decide +kernel⟩
def B_is_integer : FS := (fRet (fAndV (f1 (hIs .int) (fName 0)) (fNotV (f1 (hIs .bool) (fName 0)))))
def F_is_integer : List AV → RF := mkF 1 1 B_is_integer
theorem ok_is_integer (g : G K mg) : FnOk P w K mg base (L2.CX P w) 1 g.a_is_integer g.d_is_integer ["thing"] (spD K (Cn g) fld F_is_integer) :=
  fn_okD (k := 0) g.F_is_integer sc_is_integer fun cdv A outer s H E Z B0 L hr => (dss_one (ds_ret (de_and (de_isi .int rfl rfl g.z_isinstance rfl g.z_int PyProof.Rows.boot_int (de_name 0)) (de_one (de_not (de_isi .bool rfl rfl g.z_isinstance rfl g.z_bool PyProof.Rows.boot_bool (de_name 0)))))))
/-! ### is_order -/
abbrev s_is_order : Stmt := topS 14
theorem sc_is_order : FnScope ["thing", "number"] ["thing"] (defScope s_is_order) := ⟨rfl, rfl, rfl, by decide +kernel, rfl, by decide +kernel, by decide +kernel⟩
def B_is_order : FS := (fSeq (fIfS (fOr (fNot (fTr (f1 (hIs .tuple) (fName 0)))) (fNot (fTr (fChain (fImm (.int 1)) (fcLink hLe (fCall hLen (faCons (fName 0) faNil)) (fcLast hLe (fImm (.int 24)))))))) (fRet (fImm (.bool false))) fNx) (fRet (fAndV (fCall hAll (faCons (fLc (fIt (fName 0)) [1] (gOne 1) fYes (fI (fCallF F_is_integer (faCons (fName 1) faNil)))) faNil)) (f2 hEq (fCall hSorted (faCons (fName 0) faNil)) (fLRg1 (fCall hLen (faCons (fName 0) faNil)))))))
def F_is_order : List AV → RF := mkF 1 2 B_is_order
theorem ok_is_order (g : G K mg) : FnOk P w K mg base (L2.CX P w) 2 g.a_is_order g.d_is_order ["thing"] (spD K (Cn g) fld F_is_order) :=
  fn_okD (k := 1) g.F_is_order sc_is_order fun cdv A outer s H E Z B0 L hr => (dss_cons (ds_if (PW.pt (dw_or (dt_not (dt_val (de_isi .tuple rfl rfl g.z_isinstance rfl g.z_tuple PyProof.Rows.boot_tuple (de_name 0)))) (dw_or1 (dt_not (dt_chain de_int (ct_link op_le pr_cmp (de_callB call_len_seq pr_len rfl g.z_len PySem.boot_len (da_cons (de_name 0) da_nil)) (ct_last op_le pr_cmp (de_glob (v := .int 24) rfl g.c_MOST_ROOMS ⟨_, rfl⟩ fun _ => Dp.int _)))))))) (dss_one (ds_ret de_bl)) dss_nil) (dss_one (ds_ret (de_and (de_callB (cr_all rfl) pr_all rfl g.z_all PyProof.Rows.boot_all (da_cons (de_lc (own := [("number", 1)]) rfl sc_is_order.nd (di_it (de_name 0)) (blkOk_by (by kernel_rfl)) (fun _ _ _ _ _ => (pg_name (i := 1) sc_is_order.nd rfl (by first | exact .inl rfl | exact .inr rfl))) (tq_one 1) (fun _ _ _ _ _ => dts_nil) (fun _ _ _ _ _ => (de_imm (de_call (ok_is_integer g) (hr.mono (by omega)) g.g_is_integer g.F_is_integer.kp g.b_is_integer takes0 (da_cons (de_name 1) da_nil)))) (by decide)) da_nil)) (de_one (de_cmp (op_eqD hr.units) pr_eq (de_callB (cr_sortD hr.units) pr_sorted rfl g.z_sorted PyProof.Rows.boot_sorted (da_cons (de_name 0) da_nil)) (de_lrg1 rfl rfl g.z_list rfl g.z_range (de_callB call_len_seq pr_len rfl g.z_len PySem.boot_len (da_cons (de_name 0) da_nil))) (nomark _)))))))
/-! ### need_order -/
abbrev s_need_order : Stmt := topS 15
theorem sc_need_order : FnScope ["thing"] ["thing"] (defScope s_need_order) := ⟨rfl, rfl, rfl, by decide +kernel, rfl, by decide +kernel, by decide +kernel⟩
def B_need_order : FS := (fIfS (fNot (fTr (fCallF F_is_order (faCons (fName 0) faNil)))) (fRaise0 1) fNx)
def F_need_order : List AV → RF := mkF 1 1 B_need_order
theorem ok_need_order (g : G K mg) : FnOk P w K mg base (L2.CX P w) 3 g.a_need_order g.d_need_order ["thing"] (spD K (Cn g) fld F_need_order) :=
  fn_okD (k := 2) g.F_need_order sc_need_order fun cdv A outer s H E Z B0 L hr => (dss_one (ds_if (dt_not (dt_val (de_call (ok_is_order g) (hr.mono (by omega)) g.g_is_order g.F_is_order.kp g.b_is_order (takes_of rfl rfl rfl rfl) (da_cons (de_name 0) da_nil)))) (dss_one (ds_raise0 (n := 1) rfl (takes_of rfl rfl rfl rfl) rfl (pmk_own0 PySem.F.excBase_ValueError g.q_NoOrder g.g_NoOrder g.k_NoOrder (raises_own g.s_NoOrder g.t_NoOrder) rfl))) dss_nil))
/-! ### is_bar -/
abbrev s_is_bar : Stmt := topS 16
theorem sc_is_bar : FnScope ["order", "i", "j", "k", "first", "high", "low", "last"] ["order", "i", "j", "k"] (defScope s_is_bar) := ⟨rfl, rfl, rfl, by decide +kernel, rfl, by decide +kernel, by decide +kernel⟩
def B_is_bar : FS := (fSeq (fTgt (gMany [4, 5, 6, 7]) (fTup (faCons (f2 hIx (fName 0) (fName 1)) (faCons (f2 hIx (fName 0) (fName 2)) (faCons (f2 hIx (fName 0) (f2 hAdd (fName 2) (fImm (.int 1)))) (faCons (f2 hIx (fName 0) (fName 3)) faNil)))))) (fRet (fOrV (fChain (fName 6) (fcLink hLt (fName 4) (fcLink hLt (fName 7) (fcLast hLt (fName 5))))) (fChain (fName 5) (fcLink hLt (fName 7) (fcLink hLt (fName 4) (fcLast hLt (fName 6))))))))
def F_is_bar : List AV → RF := mkF 4 8 B_is_bar
theorem ok_is_bar (g : G K mg) : FnOk P w K mg base (L2.CX P w) 1 g.a_is_bar g.d_is_bar ["order", "i", "j", "k"] (spD K (Cn g) fld F_is_bar) :=
  fn_okD (k := 0) g.F_is_bar sc_is_bar fun cdv A outer s H E Z B0 L hr => (dss_cons (ds_tgt (de_tup (da_cons (de_ix ix_seq pr_ix (de_name 0) (de_name 1) (fun _ _ => rfl)) (da_cons (de_ix ix_seq pr_ix (de_name 0) (de_name 2) (fun _ _ => rfl)) (da_cons (de_ix ix_seq pr_ix (de_name 0) (de_bin op_addD pr_add (de_name 2) de_int) (fun _ _ => rfl)) (da_cons (de_ix ix_seq pr_ix (de_name 0) (de_name 3) (fun _ _ => rfl)) da_nil))))) (pg_tup rfl (pgs_cons (pg_name (i := 4) sc_is_bar.nd rfl (by first | exact .inl rfl | exact .inr rfl)) (pgs_cons (pg_name (i := 5) sc_is_bar.nd rfl (by first | exact .inl rfl | exact .inr rfl)) (pgs_cons (pg_name (i := 6) sc_is_bar.nd rfl (by first | exact .inl rfl | exact .inr rfl)) (pgs_cons (pg_name (i := 7) sc_is_bar.nd rfl (by first | exact .inl rfl | exact .inr rfl)) pgs_nil))))) (tq_many (tqs_cons 4 (tqs_cons 5 (tqs_cons 6 (tqs_cons 7 tqs_nil)))))) (dss_one (ds_ret (de_or (de_chain (de_name 6) (ch_link op_lt pr_cmp (de_name 4) (ch_link op_lt pr_cmp (de_name 7) (ch_last op_lt pr_cmp (de_name 5))))) (de_one (de_chain (de_name 5) (ch_link op_lt pr_cmp (de_name 7) (ch_link op_lt pr_cmp (de_name 4) (ch_last op_lt pr_cmp (de_name 6))))))))))
/-! ### first_bar -/
abbrev s_first_bar : Stmt := topS 17
theorem sc_first_bar : FnScope ["order", "j", "k", "i"] ["order"] (defScope s_first_bar) := ⟨rfl, rfl, rfl, by decide +kernel, rfl, by decide +kernel, by decide +kernel⟩
def B_first_bar : FS := (fSeq (fFor (fRng1 (faCons (fCall hLen (faCons (fName 0) faNil)) faNil)) (gOne 3) (fFor (fRng2 (faCons (fI (f2 hAdd (fName 3) (fImm (.int 1)))) (faCons (f2 hSub (fCall hLen (faCons (fName 0) faNil)) (fImm (.int 2))) faNil))) (gOne 1) (fFor (fRng2 (faCons (fI (f2 hAdd (fName 1) (fImm (.int 2)))) (faCons (fCall hLen (faCons (fName 0) faNil)) faNil))) (gOne 2) (fIfS (fTr (fCallF F_is_bar (faCons (fName 0) (faCons (fName 3) (faCons (fName 1) (faCons (fName 2) faNil)))))) (fRet (fTup (faCons (fName 3) (faCons (fName 1) (faCons (fName 2) faNil))))) fNx)))) (fRet (fImm .none)))
def F_first_bar : List AV → RF := mkF 1 4 B_first_bar
theorem ok_first_bar (g : G K mg) : FnOk P w K mg base (L2.CX P w) 2 g.a_first_bar g.d_first_bar ["order"] (spD K (Cn g) fld F_first_bar) :=
  fn_okD (k := 1) g.F_first_bar sc_first_bar fun cdv A outer s H E Z B0 L hr => (dss_cons (ds_for (passes_of rfl) rfl (di_rng1 rfl g.z_range (da_cons (de_callB call_len_seq pr_len rfl g.z_len PySem.boot_len (da_cons (de_name 0) da_nil)) da_nil)) (pg_name (i := 3) sc_first_bar.nd rfl (by first | exact .inl rfl | exact .inr rfl)) (tq_one 3) (dss_one (ds_for (passes_of rfl) rfl (di_rng2 rfl g.z_range (da_cons (de_imm (de_bin op_addD pr_add (de_name 3) de_int)) (da_cons (de_bin op_sub pr_sub (de_callB call_len_seq pr_len rfl g.z_len PySem.boot_len (da_cons (de_name 0) da_nil)) de_int) da_nil))) (pg_name (i := 1) sc_first_bar.nd rfl (by first | exact .inl rfl | exact .inr rfl)) (tq_one 1) (dss_one (ds_for (passes_of rfl) rfl (di_rng2 rfl g.z_range (da_cons (de_imm (de_bin op_addD pr_add (de_name 1) de_int)) (da_cons (de_callB call_len_seq pr_len rfl g.z_len PySem.boot_len (da_cons (de_name 0) da_nil)) da_nil))) (pg_name (i := 2) sc_first_bar.nd rfl (by first | exact .inl rfl | exact .inr rfl)) (tq_one 2) (dss_one (ds_if (dt_val (de_call (ok_is_bar g) (hr.mono (by omega)) g.g_is_bar g.F_is_bar.kp g.b_is_bar (takes_of rfl rfl rfl rfl) (da_cons (de_name 0) (da_cons (de_name 3) (da_cons (de_name 1) (da_cons (de_name 2) da_nil)))))) (dss_one (ds_ret (de_tup (da_cons (de_name 3) (da_cons (de_name 1) (da_cons (de_name 2) da_nil)))))) dss_nil))))))) (dss_one (ds_ret de_non)))
/-! ### rooms_of_order -/
abbrev s_rooms_of_order : Stmt := topS 18
theorem sc_rooms_of_order : FnScope ["order", "other", "room", "place", "here", "many", "at", "left", "top", "right", "foot", "found"] ["order"] (defScope s_rooms_of_order) := ⟨rfl, rfl, rfl, by decide +kernel, rfl, by decide +kernel, by decide +kernel⟩
def B_rooms_of_order : FS := (fSeq (fSetI 5 (fCall hLen (faCons (fName 0) faNil))) (fSeq (fSetO 3 (fRep (fLst (faCons (fImm (.int 0)) faNil)) (fName 5))) (fSeq (fFor (fEnum (faCons (fName 0) faNil)) (gMany [6, 2]) (fSub 3 (fName 2) (fName 6))) (fSeq (fSetO 11 (fLst faNil)) (fSeq (fFor (fRng1 (faCons (fName 5) faNil)) (gOne 2) (fSeq (fSetI 4 (f2 hIx (fName 3) (fName 2))) (fSeq (fSetI 7 (fCall hMax (faCons (fLst (faCons (fImm (.int 0)) (faStar (fLc (fRng1 (faCons (fName 2) faNil)) [1] (gOne 1) (fTr (f2 hLt (f2 hIx (fName 3) (fName 1)) (fName 4))) (fI (f2 hAdd (fName 1) (fImm (.int 1))))) faNil))) faNil))) (fSeq (fSetI 8 (fCall hMax (faCons (fLst (faCons (fImm (.int 0)) (faStar (fLc (fRng1 (faCons (fName 2) faNil)) [1] (gOne 1) (fTr (f2 hGt (f2 hIx (fName 3) (fName 1)) (fName 4))) (fI (f2 hAdd (fName 1) (fImm (.int 1))))) faNil))) faNil))) (fSeq (fSetI 9 (fCall hMin (faCons (fLst (faCons (fName 5) (faStar (fLc (fRng2 (faCons (fI (f2 hAdd (fName 2) (fImm (.int 1)))) (faCons (fName 5) faNil))) [1] (gOne 1) (fTr (f2 hGt (f2 hIx (fName 3) (fName 1)) (fName 4))) (fName 1)) faNil))) faNil))) (fSeq (fSetI 10 (fCall hMin (faCons (fLst (faCons (fName 5) (faStar (fLc (fRng2 (faCons (fI (f2 hAdd (fName 2) (fImm (.int 1)))) (faCons (fName 5) faNil))) [1] (gOne 1) (fTr (f2 hLt (f2 hIx (fName 3) (fName 1)) (fName 4))) (fName 1)) faNil))) faNil))) (fApp 11 (fTup (faCons (fName 7) (faCons (f2 hSub (fName 5) (fName 10)) (faCons (fName 9) (faCons (f2 hSub (fName 5) (fName 8)) faNil)))))))))))) (fRet (fCall hTuple (faCons (fName 11) faNil))))))))
def F_rooms_of_order : List AV → RF := mkF 1 12 B_rooms_of_order
theorem ok_rooms_of_order (g : G K mg) : FnOk P w K mg base (L2.CX P w) 1 g.a_rooms_of_order g.d_rooms_of_order ["order"] (spD K (Cn g) fld F_rooms_of_order) :=
  fn_okD (k := 0) g.F_rooms_of_order sc_rooms_of_order fun cdv A outer s H E Z B0 L hr => (dss_cons (ds_setI 5 sc_rooms_of_order.nd (de_callB call_len_seq pr_len rfl g.z_len PySem.boot_len (da_cons (de_name 0) da_nil))) (dss_cons (ds_setO 3 sc_rooms_of_order.nd (de_rep (de_lst (da_cons de_int da_nil)) (de_name 5))) (dss_cons (ds_for (passes_of rfl) rfl (di_enum rfl g.z_enumerate (da_cons (de_name 0) da_nil)) (pg_tup rfl (pgs_cons (pg_name (i := 6) sc_rooms_of_order.nd rfl (by first | exact .inl rfl | exact .inr rfl)) (pgs_cons (pg_name (i := 2) sc_rooms_of_order.nd rfl (by first | exact .inl rfl | exact .inr rfl)) pgs_nil))) (tq_many (tqs_cons 6 (tqs_cons 2 tqs_nil))) (dss_one (ds_sub 3 (de_name 6) (de_name 2)))) (dss_cons (ds_setO 11 sc_rooms_of_order.nd (de_lst da_nil)) (dss_cons (ds_for (passes_of rfl) rfl (di_rng1 rfl g.z_range (da_cons (de_name 5) da_nil)) (pg_name (i := 2) sc_rooms_of_order.nd rfl (by first | exact .inl rfl | exact .inr rfl)) (tq_one 2) (dss_cons (ds_setI 4 sc_rooms_of_order.nd (de_ix ix_seq pr_ix (de_name 3) (de_name 2) (fun _ _ => rfl))) (dss_cons (ds_setI 7 sc_rooms_of_order.nd (de_callB (callR_or (cr_max rfl) (call_max2 rfl)) pr_max rfl g.z_max PyProof.Rows.boot_max (da_cons (de_lst (da_cons de_int (da_star (de_lc (own := [("other", 1)]) rfl sc_rooms_of_order.nd (di_rng1 rfl g.z_range (da_cons (de_name 2) da_nil)) (blkOk_by (by kernel_rfl)) (fun _ _ _ _ _ => (pg_name (i := 1) sc_rooms_of_order.nd rfl (by first | exact .inl rfl | exact .inr rfl))) (tq_one 1) (fun _ _ _ _ _ => (dts_one (dt_cmp op_lt pr_cmp (de_ix ix_seq pr_ix (de_name 3) (de_name 1) (fun _ _ => rfl)) (de_name 4) (nomark _)))) (fun _ _ _ _ _ => (de_imm (de_bin op_addD pr_add (de_name 1) de_int))) (by decide)) da_nil))) da_nil))) (dss_cons (ds_setI 8 sc_rooms_of_order.nd (de_callB (callR_or (cr_max rfl) (call_max2 rfl)) pr_max rfl g.z_max PyProof.Rows.boot_max (da_cons (de_lst (da_cons de_int (da_star (de_lc (own := [("other", 1)]) rfl sc_rooms_of_order.nd (di_rng1 rfl g.z_range (da_cons (de_name 2) da_nil)) (blkOk_by (by kernel_rfl)) (fun _ _ _ _ _ => (pg_name (i := 1) sc_rooms_of_order.nd rfl (by first | exact .inl rfl | exact .inr rfl))) (tq_one 1) (fun _ _ _ _ _ => (dts_one (dt_cmp op_gt pr_cmp (de_ix ix_seq pr_ix (de_name 3) (de_name 1) (fun _ _ => rfl)) (de_name 4) (nomark _)))) (fun _ _ _ _ _ => (de_imm (de_bin op_addD pr_add (de_name 1) de_int))) (by decide)) da_nil))) da_nil))) (dss_cons (ds_setI 9 sc_rooms_of_order.nd (de_callB (callR_or (cr_min rfl) (call_min2 rfl)) pr_min rfl g.z_min PyProof.Rows.boot_min (da_cons (de_lst (da_cons (de_name 5) (da_star (de_lc (own := [("other", 1)]) rfl sc_rooms_of_order.nd (di_rng2 rfl g.z_range (da_cons (de_imm (de_bin op_addD pr_add (de_name 2) de_int)) (da_cons (de_name 5) da_nil))) (blkOk_by (by kernel_rfl)) (fun _ _ _ _ _ => (pg_name (i := 1) sc_rooms_of_order.nd rfl (by first | exact .inl rfl | exact .inr rfl))) (tq_one 1) (fun _ _ _ _ _ => (dts_one (dt_cmp op_gt pr_cmp (de_ix ix_seq pr_ix (de_name 3) (de_name 1) (fun _ _ => rfl)) (de_name 4) (nomark _)))) (fun _ _ _ _ _ => (de_name 1)) (by decide)) da_nil))) da_nil))) (dss_cons (ds_setI 10 sc_rooms_of_order.nd (de_callB (callR_or (cr_min rfl) (call_min2 rfl)) pr_min rfl g.z_min PyProof.Rows.boot_min (da_cons (de_lst (da_cons (de_name 5) (da_star (de_lc (own := [("other", 1)]) rfl sc_rooms_of_order.nd (di_rng2 rfl g.z_range (da_cons (de_imm (de_bin op_addD pr_add (de_name 2) de_int)) (da_cons (de_name 5) da_nil))) (blkOk_by (by kernel_rfl)) (fun _ _ _ _ _ => (pg_name (i := 1) sc_rooms_of_order.nd rfl (by first | exact .inl rfl | exact .inr rfl))) (tq_one 1) (fun _ _ _ _ _ => (dts_one (dt_cmp op_lt pr_cmp (de_ix ix_seq pr_ix (de_name 3) (de_name 1) (fun _ _ => rfl)) (de_name 4) (nomark _)))) (fun _ _ _ _ _ => (de_name 1)) (by decide)) da_nil))) da_nil))) (dss_one (ds_app 11 (de_tup (da_cons (de_name 7) (da_cons (de_bin op_sub pr_sub (de_name 5) (de_name 10)) (da_cons (de_name 9) (da_cons (de_bin op_sub pr_sub (de_name 5) (de_name 8)) da_nil))))) (ht := pe_bm PySem.F.plainAttrs_list PySem.F.slot_list_append PySem.F.type_list_append mt_append (pv 11) (pa_cons (de_tup (da_cons (de_name 7) (da_cons (de_bin op_sub pr_sub (de_name 5) (de_name 10)) (da_cons (de_name 9) (da_cons (de_bin op_sub pr_sub (de_name 5) (de_name 8)) da_nil))))) pa_nil)))))))))) (dss_one (ds_ret (de_callTy call_tuple_of pr_tuple rfl g.z_tuple PyProof.Rows.boot_tuple (da_cons (de_name 11) da_nil)))))))))
/-! ### floor_of_order -/
abbrev s_floor_of_order : Stmt := topS 19
theorem sc_floor_of_order : FnScope ["order", "bar"] ["order"] (defScope s_floor_of_order) := ⟨rfl, rfl, rfl, by decide +kernel, rfl, by decide +kernel, by decide +kernel⟩
def B_floor_of_order : FS := (fSeq (fDrop (fCallF F_need_order (faCons (fName 0) faNil))) (fSeq (fSetI 1 (fCallF F_first_bar (faCons (fName 0) faNil))) (fSeq (fIfS (fTr (f2 hNotN (fName 1) (fImm .none))) (fRaise1 5 (fName 1)) fNx) (fRet (fCallF F_rooms_of_order (faCons (fName 0) faNil))))))
def F_floor_of_order : List AV → RF := mkF 1 2 B_floor_of_order
theorem ok_floor_of_order (g : G K mg) : FnOk P w K mg base (L2.CX P w) 4 g.a_floor_of_order g.d_floor_of_order ["order"] (spD K (Cn g) fld F_floor_of_order) :=
  fn_okD (k := 3) g.F_floor_of_order sc_floor_of_order fun cdv A outer s H E Z B0 L hr => (dss_cons (ds_expr (de_call (ok_need_order g) (hr.mono (by omega)) g.g_need_order g.F_need_order.kp g.b_need_order (takes_of rfl rfl rfl rfl) (da_cons (de_name 0) da_nil))) (dss_cons (ds_setI 1 sc_floor_of_order.nd (de_call (ok_first_bar g) (hr.mono (by omega)) g.g_first_bar g.F_first_bar.kp g.b_first_bar (takes_of rfl rfl rfl rfl) (da_cons (de_name 0) da_nil))) (dss_cons (ds_if (dt_cmp op_notN pr_notN (de_name 1) de_non (nomark _)) (dss_one (ds_raise1 (n := 5) rfl (takes_of rfl rfl rfl rfl) rfl (pmk_oex g.o_BadOrder g.iC_BadOrder g.tI_BadOrder (fn_ini_BadOrder g) (hr.mono (by omega)) g.bI_BadOrder .nil (passes_call (takes_of rfl rfl rfl rfl) (fun _ _ _ _ z => z.elim)) rfl g.g_BadOrder (pa_cons (de_name 1) pa_nil)))) dss_nil) (dss_one (ds_ret (de_call (ok_rooms_of_order g) (hr.mono (by omega)) g.g_rooms_of_order g.F_rooms_of_order.kp g.b_rooms_of_order (takes_of rfl rfl rfl rfl) (da_cons (de_name 0) da_nil)))))))
/-! ### need_count -/
abbrev s_need_count : Stmt := topS 20
theorem sc_need_count : FnScope ["many", "most"] ["many", "most"] (defScope s_need_count) := ⟨rfl, rfl, rfl, by decide +kernel, rfl, by decide +kernel, by decide +kernel⟩
def B_need_count : FS := (fIfS (fOr (fNot (fTr (fCallF F_is_integer (faCons (fName 0) faNil)))) (fNot (fTr (fChain (fImm (.int 1)) (fcLink hLe (fName 0) (fcLast hLe (fName 1))))))) (fRaise0 3) fNx)
def F_need_count : List AV → RF := mkF 2 2 B_need_count
theorem ok_need_count (g : G K mg) : FnOk P w K mg base (L2.CX P w) 2 g.a_need_count g.d_need_count ["many", "most"] (spD K (Cn g) fld F_need_count) :=
  fn_okD (k := 1) g.F_need_count sc_need_count fun cdv A outer s H E Z B0 L hr => (dss_one (ds_if (PW.pt (dw_or (dt_not (dt_val (de_call (ok_is_integer g) (hr.mono (by omega)) g.g_is_integer g.F_is_integer.kp g.b_is_integer (takes_of rfl rfl rfl rfl) (da_cons (de_name 0) da_nil)))) (dw_or1 (dt_not (dt_chain de_int (ct_link op_le pr_cmp (de_name 0) (ct_last op_le pr_cmp (de_name 1)))))))) (dss_one (ds_raise0 (n := 3) rfl (takes_of rfl rfl rfl rfl) rfl (pmk_own0 PySem.F.excBase_ValueError g.q_NoCount g.g_NoCount g.k_NoCount (raises_own g.s_NoCount g.t_NoCount) rfl))) dss_nil))
/-! ### choices -/
abbrev s_choices : Stmt := topS 21
theorem sc_choices : FnScope ["many", "some", "at", "found"] ["many", "some"] (defScope s_choices) := ⟨rfl, rfl, rfl, by decide +kernel, rfl, by decide +kernel, by decide +kernel⟩
def B_choices : FS := (fSeq (fSetI 3 (fImm (.int 1))) (fSeq (fFor (fRng1 (faCons (fName 1) faNil)) (gOne 2) (fSetI 3 (f2 hDiv (f2 hMul (fName 3) (f2 hSub (fName 0) (fName 2))) (f2 hAdd (fName 2) (fImm (.int 1)))))) (fRet (fIf (fTr (fChain (fImm (.int 0)) (fcLink hLe (fName 1) (fcLast hLe (fName 0))))) (fName 3) (fImm (.int 0))))))
def F_choices : List AV → RF := mkF 2 4 B_choices
theorem ok_choices (g : G K mg) : FnOk P w K mg base (L2.CX P w) 1 g.a_choices g.d_choices ["many", "some"] (spD K (Cn g) fld F_choices) :=
  fn_okD (k := 0) g.F_choices sc_choices fun cdv A outer s H E Z B0 L hr => (dss_cons (ds_setI 3 sc_choices.nd de_int) (dss_cons (ds_for (passes_of rfl) rfl (di_rng1 rfl g.z_range (da_cons (de_name 1) da_nil)) (pg_name (i := 2) sc_choices.nd rfl (by first | exact .inl rfl | exact .inr rfl)) (tq_one 2) (dss_one (ds_setI 3 sc_choices.nd (de_bin op_fdivN pr_div (de_bin op_mul pr_mul (de_name 3) (de_bin op_sub pr_sub (de_name 0) (de_name 2))) (de_bin op_addD pr_add (de_name 2) de_int))))) (dss_one (ds_ret (de_if (dt_chain de_int (ct_link op_le pr_cmp (de_name 1) (ct_last op_le pr_cmp (de_name 0)))) (de_name 3) de_int)))))
/-! ### weak_count -/
abbrev s_weak_count : Stmt := topS 22
theorem sc_weak_count : FnScope ["many", "at", "total"] ["many"] (defScope s_weak_count) := ⟨rfl, rfl, rfl, by decide +kernel, rfl, by decide +kernel, by decide +kernel⟩
def B_weak_count : FS := (fSeq (fDrop (fCallF F_need_count (faCons (fName 0) (faCons (fImm (.int 200)) faNil)))) (fSeq (fSetI 2 (fImm (.int 0))) (fSeq (fFor (fRng2 (faCons (fImm (.int 1)) (faCons (fI (f2 hAdd (fName 0) (fImm (.int 1)))) faNil))) (gOne 1) (fAug 2 (fun i j => i + j) (f2 hMul (f2 hMul (fCallF F_choices (faCons (fI (f2 hAdd (fName 0) (fImm (.int 1)))) (faCons (f2 hSub (fName 1) (fImm (.int 1))) faNil))) (fCallF F_choices (faCons (fI (f2 hAdd (fName 0) (fImm (.int 1)))) (faCons (fName 1) faNil)))) (fCallF F_choices (faCons (fI (f2 hAdd (fName 0) (fImm (.int 1)))) (faCons (fI (f2 hAdd (fName 1) (fImm (.int 1)))) faNil)))))) (fRet (f2 hDiv (fName 2) (f2 hMul (fCallF F_choices (faCons (fI (f2 hAdd (fName 0) (fImm (.int 1)))) (faCons (fImm (.int 1)) faNil))) (fCallF F_choices (faCons (fI (f2 hAdd (fName 0) (fImm (.int 1)))) (faCons (fImm (.int 2)) faNil)))))))))
def F_weak_count : List AV → RF := mkF 1 3 B_weak_count
theorem ok_weak_count (g : G K mg) : FnOk P w K mg base (L2.CX P w) 3 g.a_weak_count g.d_weak_count ["many"] (spD K (Cn g) fld F_weak_count) :=
  fn_okD (k := 2) g.F_weak_count sc_weak_count fun cdv A outer s H E Z B0 L hr => (dss_cons (ds_expr (de_call (ok_need_count g) (hr.mono (by omega)) g.g_need_count g.F_need_count.kp g.b_need_count (takes_of rfl rfl rfl rfl) (da_cons (de_name 0) (da_cons (de_glob (v := .int 200) rfl g.c_MOST_COUNTED ⟨_, rfl⟩ fun _ => Dp.int _) da_nil)))) (dss_cons (ds_setI 2 sc_weak_count.nd de_int) (dss_cons (ds_for (passes_of rfl) rfl (di_rng2 rfl g.z_range (da_cons de_int (da_cons (de_imm (de_bin op_addD pr_add (de_name 0) de_int)) da_nil))) (pg_name (i := 1) sc_weak_count.nd rfl (by first | exact .inl rfl | exact .inr rfl)) (tq_one 1) (dss_one (ds_aug 2 ip_add sc_weak_count.nd (de_bin op_mul pr_mul (de_bin op_mul pr_mul (de_call (ok_choices g) (hr.mono (by omega)) g.g_choices g.F_choices.kp g.b_choices (takes_of rfl rfl rfl rfl) (da_cons (de_imm (de_bin op_addD pr_add (de_name 0) de_int)) (da_cons (de_bin op_sub pr_sub (de_name 1) de_int) da_nil))) (de_call (ok_choices g) (hr.mono (by omega)) g.g_choices g.F_choices.kp g.b_choices (takes_of rfl rfl rfl rfl) (da_cons (de_imm (de_bin op_addD pr_add (de_name 0) de_int)) (da_cons (de_name 1) da_nil)))) (de_call (ok_choices g) (hr.mono (by omega)) g.g_choices g.F_choices.kp g.b_choices (takes_of rfl rfl rfl rfl) (da_cons (de_imm (de_bin op_addD pr_add (de_name 0) de_int)) (da_cons (de_imm (de_bin op_addD pr_add (de_name 1) de_int)) da_nil))))))) (dss_one (ds_ret (de_bin op_fdivN pr_div (de_name 2) (de_bin op_mul pr_mul (de_call (ok_choices g) (hr.mono (by omega)) g.g_choices g.F_choices.kp g.b_choices (takes_of rfl rfl rfl rfl) (da_cons (de_imm (de_bin op_addD pr_add (de_name 0) de_int)) (da_cons de_int da_nil))) (de_call (ok_choices g) (hr.mono (by omega)) g.g_choices g.F_choices.kp g.b_choices (takes_of rfl rfl rfl rfl) (da_cons (de_imm (de_bin op_addD pr_add (de_name 0) de_int)) (da_cons de_int da_nil))))))))))
/-! ### orders -/
abbrev s_orders : Stmt := topS 23
theorem sc_orders : FnScope ["many", "order"] ["many"] (defScope s_orders) := ⟨rfl, rfl, rfl, by decide +kernel, rfl, by decide +kernel, by decide +kernel⟩
def B_orders : FS := (fSeq (fDrop (fCallF F_need_count (faCons (fName 0) (faCons (fImm (.int 24)) faNil)))) (fSeq (fIfS (fTr (f2 hGt (fName 0) (fImm (.int 7)))) (fRaise1 4 (fImm (.int 7))) fNx) (fRet (fLc (fPerm (fName 0)) [1] (gOne 1) (fTr (f2 hIsN (fCallF F_first_bar (faCons (fName 1) faNil)) (fImm .none))) (fName 1)))))
def F_orders : List AV → RF := mkF 1 2 B_orders
theorem ok_orders (g : G K mg) : FnOk P w K mg base (L2.CX P w) 3 g.a_orders g.d_orders ["many"] (spD K (Cn g) fld F_orders) :=
  fn_okD (k := 2) g.F_orders sc_orders fun cdv A outer s H E Z B0 L hr => (dss_cons (ds_expr (de_call (ok_need_count g) (hr.mono (by omega)) g.g_need_count g.F_need_count.kp g.b_need_count (takes_of rfl rfl rfl rfl) (da_cons (de_name 0) (da_cons (de_glob (v := .int 24) rfl g.c_MOST_ROOMS ⟨_, rfl⟩ fun _ => Dp.int _) da_nil)))) (dss_cons (ds_if (dt_cmp op_gt pr_cmp (de_name 0) (de_glob (v := .int 7) rfl g.c_MOST_LISTED ⟨_, rfl⟩ fun _ => Dp.int _) (nomark _)) (dss_one (ds_raise1 (n := 4) rfl (takes_of rfl rfl rfl rfl) rfl (pmk_oex g.o_TooMany g.iC_TooMany g.tI_TooMany (fn_ini_TooMany g) (hr.mono (by omega)) g.bI_TooMany .nil (passes_call (takes_of rfl rfl rfl rfl) (fun _ _ _ _ z => z.elim)) rfl g.g_TooMany (pa_cons (de_glob (v := .int 7) rfl g.c_MOST_LISTED ⟨_, rfl⟩ fun _ => Dp.int _) pa_nil)))) dss_nil) (dss_one (ds_ret (de_lc (own := [("order", 1)]) rfl sc_orders.nd (di_perm rfl rfl g.p_permutations rfl g.z_range (de_name 0)) (blkOk_by (by kernel_rfl)) (fun _ _ _ _ _ => (pg_name (i := 1) sc_orders.nd rfl (by first | exact .inl rfl | exact .inr rfl))) (tq_one 1) (fun _ _ _ _ _ => (dts_one (dt_cmp op_isN pr_isN (de_call (ok_first_bar g) (hr.mono (by omega)) g.g_first_bar g.F_first_bar.kp g.b_first_bar takes0 (da_cons (de_name 1) da_nil)) de_non (nomark _)))) (fun _ _ _ _ _ => (de_name 1)) (by decide))))))
/-! ### order_number -/
abbrev s_order_number : Stmt := topS 25
theorem sc_order_number : FnScope ["many", "number", "told"] ["many", "number"] (defScope s_order_number) := ⟨rfl, rfl, rfl, by decide +kernel, rfl, by decide +kernel, by decide +kernel⟩
def B_order_number : FS := (fSeq (fSetI 2 (fCallF F_orders (faCons (fName 0) faNil))) (fSeq (fIfS (fOr (fNot (fTr (fCallF F_is_integer (faCons (fName 1) faNil)))) (fNot (fTr (fChain (fImm (.int 0)) (fcLink hLe (fName 1) (fcLast hLt (fCall hLen (faCons (fName 2) faNil)))))))) (fRaise0 2) fNx) (fRet (f2 hIx (fName 2) (fName 1)))))
def F_order_number : List AV → RF := mkF 2 3 B_order_number
theorem ok_order_number (g : G K mg) : FnOk P w K mg base (L2.CX P w) 4 g.a_order_number g.d_order_number ["many", "number"] (spD K (Cn g) fld F_order_number) :=
  fn_okD (k := 3) g.F_order_number sc_order_number fun cdv A outer s H E Z B0 L hr => (dss_cons (ds_setI 2 sc_order_number.nd (de_call (ok_orders g) (hr.mono (by omega)) g.g_orders g.F_orders.kp g.b_orders (takes_of rfl rfl rfl rfl) (da_cons (de_name 0) da_nil))) (dss_cons (ds_if (PW.pt (dw_or (dt_not (dt_val (de_call (ok_is_integer g) (hr.mono (by omega)) g.g_is_integer g.F_is_integer.kp g.b_is_integer (takes_of rfl rfl rfl rfl) (da_cons (de_name 1) da_nil)))) (dw_or1 (dt_not (dt_chain de_int (ct_link op_le pr_cmp (de_name 1) (ct_last op_lt pr_cmp (de_callB call_len_seq pr_len rfl g.z_len PySem.boot_len (da_cons (de_name 2) da_nil))))))))) (dss_one (ds_raise0 (n := 2) rfl (takes_of rfl rfl rfl rfl) rfl (pmk_own0 PySem.F.excBase_ValueError g.q_NoNumber g.g_NoNumber g.k_NoNumber (raises_own g.s_NoNumber g.t_NoNumber) rfl))) dss_nil) (dss_one (ds_ret (de_ix ix_seq pr_ix (de_name 2) (de_name 1) (fun _ _ => rfl))))))
/-! ### _law_hand -/
abbrev s__law_hand : Stmt := topS 27
theorem sc__law_hand : FnScope ["script", "cell", "cells"] ["script"] (defScope s__law_hand) := ⟨rfl, rfl, rfl, by decide +kernel, rfl, by decide +kernel, by decide +kernel⟩
def B__law_hand : FS := (fSeq (fSetI 2 (fLc (fIt (fI (fSl (fName 0) foNone (foSome (fImm (.int 63)))))) [1] (gOne 1) fYes (fCall hAbs (faCons (fCall hInt (faCons (fName 1) faNil)) faNil)))) (fRet (fLst (faCons (fName 2) (faCons (fImm (.int 0)) (faCons (fImm (.int 0)) (faCons (fI (f2 hAdd (fImm (.int 31)) (f2 hMul (fImm (.int 7)) (fCall hLen (faCons (fName 2) faNil))))) (faCons (fImm (.int 0)) faNil))))))))
def F__law_hand : List AV → RF := mkF 1 3 B__law_hand
theorem ok__law_hand (g : G K mg) : FnOk P w K mg base (L2.CX P w) 1 g.a__law_hand g.d__law_hand ["script"] (spD K (Cn g) fld F__law_hand) :=
  fn_okD (k := 0) g.F__law_hand sc__law_hand fun cdv A outer s H E Z B0 L hr => (dss_cons (ds_lcI 2 (own := [("cell", 1)]) rfl sc__law_hand.nd (di_it (de_imm (de_slice (de_name 0) do_none (do_some de_int)))) (blkOk_by (by kernel_rfl)) (fun _ _ _ _ _ => (pg_name (i := 1) sc__law_hand.nd rfl (by first | exact .inl rfl | exact .inr rfl))) (tq_one 1) (fun _ _ _ _ _ => dts_nil) (fun _ _ _ _ _ => (de_callB call_abs pr_abs rfl g.z_abs PyProof.Rows.boot_abs (da_cons (de_callTy call_int1 pr_int rfl g.z_int PyProof.Rows.boot_int (da_cons (de_name 1) da_nil)) da_nil))) (by decide)) (dss_one (ds_ret (de_lst (da_cons (de_name 2) (da_cons de_int (da_cons de_int (da_cons (de_imm (de_bin op_addD pr_add de_int (de_bin op_mul pr_mul de_int (de_callB call_len_seq pr_len rfl g.z_len PySem.boot_len (da_cons (de_name 2) da_nil))))) (da_cons de_int da_nil)))))))))
/-! ### _law_draw -/
abbrev s__law_draw : Stmt := topS 28
theorem sc__law_draw : FnScope ["hand", "many", "number", "cell", "digit"] ["hand", "many"] (defScope s__law_draw) := ⟨rfl, rfl, rfl, by decide +kernel, rfl, by decide +kernel, by decide +kernel⟩
def B__law_draw : FS := (fSeq (fIfS (fAnd (fTr (f2 hEq (f2 hIx (fName 0) (fImm (.int 2))) (fImm (.int 0)))) (fTr (f2 hLt (f2 hIx (fName 0) (fImm (.int 1))) (fCall hLen (faCons (f2 hIx (fName 0) (fImm (.int 0))) faNil))))) (fSeq (fSetI 3 (f2 hIx (f2 hIx (fName 0) (fImm (.int 0))) (f2 hIx (fName 0) (fImm (.int 1))))) (fSeq (fSub 0 (fImm (.int 1)) (f2 hAdd (f2 hIx (fName 0) (fImm (.int 1))) (fImm (.int 1)))) (fSeq (fSub 0 (fImm (.int 3)) (f2 hMod (fCall hInt (faCons (f2 hAdd (f2 hAdd (f2 hMul (f2 hIx (fName 0) (fImm (.int 3))) (fImm (.int 48271))) (fName 3)) (fImm (.int 11))) faNil)) (fImm (.int 2147483647)))) (fIfS (fTr (f2 hGe (fName 3) (f2 hPow (fImm (.int 10)) (fImm (.int 18))))) (fSub 0 (fImm (.int 2)) (fName 3)) fNx)))) fNx) (fSeq (fIfS (fTr (f2 hGt (f2 hIx (fName 0) (fImm (.int 2))) (fImm (.int 0)))) (fSeq (fSetI 4 (f2 hMod (fCall hInt (faCons (f2 hIx (fName 0) (fImm (.int 2))) faNil)) (fName 1))) (fSeq (fSub 0 (fImm (.int 2)) (f2 hDiv (f2 hIx (fName 0) (fImm (.int 2))) (fName 1))) (fRet (fName 4)))) fNx) (fSeq (fSub 0 (fImm (.int 4)) (f2 hAdd (f2 hIx (fName 0) (fImm (.int 4))) (fImm (.int 1)))) (fSeq (fSetI 2 (f2 hMod (fCall hInt (faCons (f2 hMul (fCall hInt (faCons (f2 hAdd (f2 hIx (fName 0) (fImm (.int 3))) (f2 hMul (fImm (.int 6007)) (f2 hIx (fName 0) (fImm (.int 4))))) faNil)) (fImm (.int 69621))) faNil)) (fImm (.int 2147483629)))) (fSeq (fSetI 2 (f2 hMod (fCall hInt (faCons (f2 hMul (fName 2) (f2 hAdd (f2 hDiv (fName 2) (fImm (.int 1013))) (fImm (.int 48271)))) faNil)) (fImm (.int 2147483647)))) (fSeq (fSetI 2 (f2 hMod (fCall hInt (faCons (f2 hMul (fName 2) (f2 hAdd (f2 hDiv (fName 2) (fImm (.int 2011))) (fImm (.int 16807)))) faNil)) (fImm (.int 2147483587)))) (fRet (f2 hMod (fCall hInt (faCons (f2 hDiv (fName 2) (fImm (.int 32))) faNil)) (fName 1)))))))))
def F__law_draw : List AV → RF := mkF 2 5 B__law_draw
theorem ok__law_draw (g : G K mg) : FnOk P w K mg base (L2.CX P w) 1 g.a__law_draw g.d__law_draw ["hand", "many"] (spD K (Cn g) fld F__law_draw) :=
  fn_okD (k := 0) g.F__law_draw sc__law_draw fun cdv A outer s H E Z B0 L hr => (dss_cons (ds_if (PW.pt (dw_and (dt_cmp (op_eqD hr.units) pr_eq (de_ix ix_seq pr_ix (de_name 0) de_int (fun _ _ => rfl)) de_int (nomark _)) (dw_and1 (dt_cmp op_lt pr_cmp (de_ix ix_seq pr_ix (de_name 0) de_int (fun _ _ => rfl)) (de_callB call_len_seq pr_len rfl g.z_len PySem.boot_len (da_cons (de_ix ix_seq pr_ix (de_name 0) de_int (fun _ _ => rfl)) da_nil)) (nomark _))))) (dss_cons (ds_setI 3 sc__law_draw.nd (de_ix ix_seq pr_ix (de_ix ix_seq pr_ix (de_name 0) de_int (fun _ _ => rfl)) (de_ix ix_seq pr_ix (de_name 0) de_int (fun _ _ => rfl)) (fun _ _ => rfl))) (dss_cons (ds_sub 0 (de_bin op_addD pr_add (de_ix ix_seq pr_ix (de_name 0) de_int (fun _ _ => rfl)) de_int) de_int) (dss_cons (ds_sub 0 (de_bin op_modN pr_mod (de_callTy call_int1 pr_int rfl g.z_int PyProof.Rows.boot_int (da_cons (de_bin op_addD pr_add (de_bin op_addD pr_add (de_bin op_mul pr_mul (de_ix ix_seq pr_ix (de_name 0) de_int (fun _ _ => rfl)) de_int) (de_name 3)) de_int) da_nil)) de_int) de_int) (dss_one (ds_if (dt_cmp op_ge pr_cmp (de_name 3) (de_bin op_pow pr_pow de_int de_int) (nomark _)) (dss_one (ds_sub 0 (de_name 3) de_int)) dss_nil))))) dss_nil) (dss_cons (ds_if (dt_cmp op_gt pr_cmp (de_ix ix_seq pr_ix (de_name 0) de_int (fun _ _ => rfl)) de_int (nomark _)) (dss_cons (ds_setI 4 sc__law_draw.nd (de_bin op_modN pr_mod (de_callTy call_int1 pr_int rfl g.z_int PyProof.Rows.boot_int (da_cons (de_ix ix_seq pr_ix (de_name 0) de_int (fun _ _ => rfl)) da_nil)) (de_name 1))) (dss_cons (ds_sub 0 (de_bin op_fdivN pr_div (de_ix ix_seq pr_ix (de_name 0) de_int (fun _ _ => rfl)) (de_name 1)) de_int) (dss_one (ds_ret (de_name 4))))) dss_nil) (dss_cons (ds_sub 0 (de_bin op_addD pr_add (de_ix ix_seq pr_ix (de_name 0) de_int (fun _ _ => rfl)) de_int) de_int) (dss_cons (ds_setI 2 sc__law_draw.nd (de_bin op_modN pr_mod (de_callTy call_int1 pr_int rfl g.z_int PyProof.Rows.boot_int (da_cons (de_bin op_mul pr_mul (de_callTy call_int1 pr_int rfl g.z_int PyProof.Rows.boot_int (da_cons (de_bin op_addD pr_add (de_ix ix_seq pr_ix (de_name 0) de_int (fun _ _ => rfl)) (de_bin op_mul pr_mul de_int (de_ix ix_seq pr_ix (de_name 0) de_int (fun _ _ => rfl)))) da_nil)) de_int) da_nil)) de_int)) (dss_cons (ds_setI 2 sc__law_draw.nd (de_bin op_modN pr_mod (de_callTy call_int1 pr_int rfl g.z_int PyProof.Rows.boot_int (da_cons (de_bin op_mul pr_mul (de_name 2) (de_bin op_addD pr_add (de_bin op_fdivN pr_div (de_name 2) de_int) de_int)) da_nil)) de_int)) (dss_cons (ds_setI 2 sc__law_draw.nd (de_bin op_modN pr_mod (de_callTy call_int1 pr_int rfl g.z_int PyProof.Rows.boot_int (da_cons (de_bin op_mul pr_mul (de_name 2) (de_bin op_addD pr_add (de_bin op_fdivN pr_div (de_name 2) de_int) de_int)) da_nil)) de_int)) (dss_one (ds_ret (de_bin op_modN pr_mod (de_callTy call_int1 pr_int rfl g.z_int PyProof.Rows.boot_int (da_cons (de_bin op_fdivN pr_div (de_name 2) de_int) da_nil)) (de_name 1))))))))))
/-! ### _law_some -/
abbrev s__law_some : Stmt := topS 29
theorem sc__law_some : FnScope ["hand", "things"] ["hand", "things"] (defScope s__law_some) := ⟨rfl, rfl, rfl, by decide +kernel, rfl, by decide +kernel, by decide +kernel⟩
def B__law_some : FS := (fRet (f2 hIx (fName 1) (fCallF F__law_draw (faCons (fName 0) (faCons (fCall hLen (faCons (fName 1) faNil)) faNil)))))
def F__law_some : List AV → RF := mkF 2 2 B__law_some
theorem ok__law_some (g : G K mg) : FnOk P w K mg base (L2.CX P w) 2 g.a__law_some g.d__law_some ["hand", "things"] (spD K (Cn g) fld F__law_some) :=
  fn_okD (k := 1) g.F__law_some sc__law_some fun cdv A outer s H E Z B0 L hr => (dss_one (ds_ret (de_ix ix_seq pr_ix (de_name 1) (de_call (ok__law_draw g) (hr.mono (by omega)) g.g__law_draw g.F__law_draw.kp g.b__law_draw (takes_of rfl rfl rfl rfl) (da_cons (de_name 0) (da_cons (de_callB call_len_seq pr_len rfl g.z_len PySem.boot_len (da_cons (de_name 1) da_nil)) da_nil))) (fun _ _ => rfl))))
/-! ### _law_kept -/
abbrev s__law_kept : Stmt := topS 30
theorem sc__law_kept : FnScope ["told", "due", "at"] ["told", "due"] (defScope s__law_kept) := ⟨rfl, rfl, rfl, by decide +kernel, rfl, by decide +kernel, by decide +kernel⟩
def B__law_kept (F : List AV → RF) : FS := (fSeq (fIfS (fOr (fTr (f1 (hIs .tuple) (fName 1))) (fTr (f1 (hIs .list) (fName 1)))) (fSeq (fIfS (fOr (fTr (f2 hNe (f1 (hIs .tuple) (fName 0)) (f1 (hIs .tuple) (fName 1)))) (fTr (f2 hNe (f1 (hIs .list) (fName 0)) (f1 (hIs .list) (fName 1))))) (fRet (fImm (.bool false))) fNx) (fRet (fAndV (f2 hEq (fCall hLen (faCons (fName 0) faNil)) (fCall hLen (faCons (fName 1) faNil))) (fCall hAll (faCons (fLc (fRng1 (faCons (fCall hLen (faCons (fName 1) faNil)) faNil)) [2] (gOne 2) fYes (fI (fCallF F (faCons (f2 hIx (fName 0) (fName 2)) (faCons (f2 hIx (fName 1) (fName 2)) faNil))))) faNil))))) fNx) (fSeq (fIfS (fTr (f2 hIsN (fName 1) (fImm .none))) (fRet (f2 hIsN (fName 0) (fImm .none))) fNx) (fSeq (fIfS (fTr (f1 (hIs .bool) (fName 1))) (fRet (fIf (fTr (fName 1)) (f2 hIsB (fName 0) (fImm (.bool true))) (f2 hIsB (fName 0) (fImm (.bool false))))) fNx) (fSeq (fIfS (fTr (f1 (hIs .int) (fName 1))) (fRet (fAndV (f1 (hIs .int) (fName 0)) (fAndV (fNotV (f1 (hIs .bool) (fName 0))) (f2 hEq (fName 0) (fName 1))))) fNx) (fRet (fAndV (f1 (hIs .str) (fName 0)) (f2 hEq (fName 0) (fName 1))))))))
def F__law_kept : Nat → List AV → RF
  | 0 => fun _ => .no
  | n + 1 => mkF 2 3 (B__law_kept (F__law_kept n))
theorem ok__law_kept (g : G K mg) : ∀ n, FnOk P w K mg base (L2.CX P w) (1 + n) g.a__law_kept g.d__law_kept ["told", "due"] (spD K (Cn g) fld (F__law_kept n))
  | 0 => fn_noD (k := 0) g.F__law_kept sc__law_kept
  | n + 1 => by
    have ih := ok__law_kept g n
    exact fn_okD (k := 1 + n) g.F__law_kept sc__law_kept fun cdv A outer s H E Z B0 L hr => (dss_cons (ds_if (PW.pt (dw_or (dt_val (de_isi .tuple rfl rfl g.z_isinstance rfl g.z_tuple PyProof.Rows.boot_tuple (de_name 1))) (dw_or1 (dt_val (de_isi .list rfl rfl g.z_isinstance rfl g.z_list PyProof.Rows.boot_list (de_name 1)))))) (dss_cons (ds_if (PW.pt (dw_or (dt_cmp (op_neD hr.units) pr_ne (de_isi .tuple rfl rfl g.z_isinstance rfl g.z_tuple PyProof.Rows.boot_tuple (de_name 0)) (de_isi .tuple rfl rfl g.z_isinstance rfl g.z_tuple PyProof.Rows.boot_tuple (de_name 1)) (nomark _)) (dw_or1 (dt_cmp (op_neD hr.units) pr_ne (de_isi .list rfl rfl g.z_isinstance rfl g.z_list PyProof.Rows.boot_list (de_name 0)) (de_isi .list rfl rfl g.z_isinstance rfl g.z_list PyProof.Rows.boot_list (de_name 1)) (nomark _))))) (dss_one (ds_ret de_bl)) dss_nil) (dss_one (ds_ret (de_and (de_cmp (op_eqD hr.units) pr_eq (de_callB call_len_seq pr_len rfl g.z_len PySem.boot_len (da_cons (de_name 0) da_nil)) (de_callB call_len_seq pr_len rfl g.z_len PySem.boot_len (da_cons (de_name 1) da_nil)) (nomark _)) (de_one (de_callB (cr_all rfl) pr_all rfl g.z_all PyProof.Rows.boot_all (da_cons (de_lc (own := [("at", 2)]) rfl sc__law_kept.nd (di_rng1 rfl g.z_range (da_cons (de_callB call_len_seq pr_len rfl g.z_len PySem.boot_len (da_cons (de_name 1) da_nil)) da_nil)) (blkOk_by (by kernel_rfl)) (fun _ _ _ _ _ => (pg_name (i := 2) sc__law_kept.nd rfl (by first | exact .inl rfl | exact .inr rfl))) (tq_one 2) (fun _ _ _ _ _ => dts_nil) (fun _ _ _ _ _ => (de_imm (de_call (ih) (hr.mono (by omega)) g.g__law_kept g.F__law_kept.kp g.b__law_kept takes0 (da_cons (de_ix ix_seq pr_ix (de_name 0) (de_name 2) (fun _ _ => rfl)) (da_cons (de_ix ix_seq pr_ix (de_name 1) (de_name 2) (fun _ _ => rfl)) da_nil))))) (by decide)) da_nil))))))) dss_nil) (dss_cons (ds_if (dt_cmp op_isN pr_isN (de_name 1) de_non (nomark _)) (dss_one (ds_ret (de_cmp op_isN pr_isN (de_name 0) de_non (nomark _)))) dss_nil) (dss_cons (ds_if (dt_val (de_isi .bool rfl rfl g.z_isinstance rfl g.z_bool PyProof.Rows.boot_bool (de_name 1))) (dss_one (ds_ret (de_if (dt_val (de_name 1)) (de_cmp op_isBl pr_isB (de_name 0) de_bl (nomark _)) (de_cmp op_isBl pr_isB (de_name 0) de_bl (nomark _))))) dss_nil) (dss_cons (ds_if (dt_val (de_isi .int rfl rfl g.z_isinstance rfl g.z_int PyProof.Rows.boot_int (de_name 1))) (dss_one (ds_ret (de_and (de_isi .int rfl rfl g.z_isinstance rfl g.z_int PyProof.Rows.boot_int (de_name 0)) (de_and (de_not (de_isi .bool rfl rfl g.z_isinstance rfl g.z_bool PyProof.Rows.boot_bool (de_name 0))) (de_one (de_cmp (op_eqD hr.units) pr_eq (de_name 0) (de_name 1) (nomark _))))))) dss_nil) (dss_one (ds_ret (de_and (de_isi .str rfl rfl g.z_isinstance rfl g.z_str PyProof.Rows.boot_str (de_name 0)) (de_one (de_cmp (op_eqD hr.units) pr_eq (de_name 0) (de_name 1) (nomark _))))))))))
/-! ### _law_pieces -/
abbrev s__law_pieces : Stmt := topS 31
theorem sc__law_pieces : FnScope ["rooms", "kind", "at", "room", "found", "first", "last", "begin", "end"] ["rooms", "kind", "at"] (defScope s__law_pieces) := ⟨rfl, rfl, rfl, by decide +kernel, rfl, by decide +kernel, by decide +kernel⟩
def B__law_pieces : FS := (fSeq (fTgt (gMany [7, 8, 5, 6]) (fIf (fTr (f2 hEq (fName 1) (fImm (.str "level")))) (fTup (faCons (fImm (.int 1)) (faCons (fImm (.int 3)) (faCons (fImm (.int 0)) (faCons (fImm (.int 2)) faNil))))) (fTup (faCons (fImm (.int 0)) (faCons (fImm (.int 2)) (faCons (fImm (.int 1)) (faCons (fImm (.int 3)) faNil))))))) (fSeq (fSetO 4 (fLst faNil)) (fSeq (fFor (fRng1 (faCons (fCall hLen (faCons (fName 0) faNil)) faNil)) (gOne 3) (fSeq (fIfS (fTr (f2 hEq (f2 hIx (f2 hIx (fName 0) (fName 3)) (fName 8)) (fName 2))) (fApp 4 (fTup (faCons (f2 hIx (f2 hIx (fName 0) (fName 3)) (fName 5)) (faCons (f2 hIx (f2 hIx (fName 0) (fName 3)) (fName 6)) (faCons (fImm (.int 0)) (faCons (fName 3) faNil)))))) fNx) (fIfS (fTr (f2 hEq (f2 hIx (f2 hIx (fName 0) (fName 3)) (fName 7)) (fName 2))) (fApp 4 (fTup (faCons (f2 hIx (f2 hIx (fName 0) (fName 3)) (fName 5)) (faCons (f2 hIx (f2 hIx (fName 0) (fName 3)) (fName 6)) (faCons (fImm (.int 1)) (faCons (fName 3) faNil)))))) fNx))) (fRet (fCall hSorted (faCons (fName 4) faNil))))))
def F__law_pieces : List AV → RF := mkF 3 9 B__law_pieces
theorem ok__law_pieces (g : G K mg) : FnOk P w K mg base (L2.CX P w) 1 g.a__law_pieces g.d__law_pieces ["rooms", "kind", "at"] (spD K (Cn g) fld F__law_pieces) :=
  fn_okD (k := 0) g.F__law_pieces sc__law_pieces fun cdv A outer s H E Z B0 L hr => (dss_cons (ds_tgt (de_if (dt_cmp (op_eqD hr.units) pr_eq (de_name 1) de_str (nomark _)) (de_tup (da_cons de_int (da_cons de_int (da_cons de_int (da_cons de_int da_nil))))) (de_tup (da_cons de_int (da_cons de_int (da_cons de_int (da_cons de_int da_nil)))))) (pg_tup rfl (pgs_cons (pg_name (i := 7) sc__law_pieces.nd rfl (by first | exact .inl rfl | exact .inr rfl)) (pgs_cons (pg_name (i := 8) sc__law_pieces.nd rfl (by first | exact .inl rfl | exact .inr rfl)) (pgs_cons (pg_name (i := 5) sc__law_pieces.nd rfl (by first | exact .inl rfl | exact .inr rfl)) (pgs_cons (pg_name (i := 6) sc__law_pieces.nd rfl (by first | exact .inl rfl | exact .inr rfl)) pgs_nil))))) (tq_many (tqs_cons 7 (tqs_cons 8 (tqs_cons 5 (tqs_cons 6 tqs_nil)))))) (dss_cons (ds_setO 4 sc__law_pieces.nd (de_lst da_nil)) (dss_cons (ds_for (passes_of rfl) rfl (di_rng1 rfl g.z_range (da_cons (de_callB call_len_seq pr_len rfl g.z_len PySem.boot_len (da_cons (de_name 0) da_nil)) da_nil)) (pg_name (i := 3) sc__law_pieces.nd rfl (by first | exact .inl rfl | exact .inr rfl)) (tq_one 3) (dss_cons (ds_if (dt_cmp (op_eqD hr.units) pr_eq (de_ix ix_seq pr_ix (de_ix ix_seq pr_ix (de_name 0) (de_name 3) (fun _ _ => rfl)) (de_name 8) (fun _ _ => rfl)) (de_name 2) (nomark _)) (dss_one (ds_app 4 (de_tup (da_cons (de_ix ix_seq pr_ix (de_ix ix_seq pr_ix (de_name 0) (de_name 3) (fun _ _ => rfl)) (de_name 5) (fun _ _ => rfl)) (da_cons (de_ix ix_seq pr_ix (de_ix ix_seq pr_ix (de_name 0) (de_name 3) (fun _ _ => rfl)) (de_name 6) (fun _ _ => rfl)) (da_cons de_int (da_cons (de_name 3) da_nil))))) (ht := pe_bm PySem.F.plainAttrs_list PySem.F.slot_list_append PySem.F.type_list_append mt_append (pv 4) (pa_cons (de_tup (da_cons (de_ix ix_seq pr_ix (de_ix ix_seq pr_ix (de_name 0) (de_name 3) (fun _ _ => rfl)) (de_name 5) (fun _ _ => rfl)) (da_cons (de_ix ix_seq pr_ix (de_ix ix_seq pr_ix (de_name 0) (de_name 3) (fun _ _ => rfl)) (de_name 6) (fun _ _ => rfl)) (da_cons de_int (da_cons (de_name 3) da_nil))))) pa_nil)))) dss_nil) (dss_one (ds_if (dt_cmp (op_eqD hr.units) pr_eq (de_ix ix_seq pr_ix (de_ix ix_seq pr_ix (de_name 0) (de_name 3) (fun _ _ => rfl)) (de_name 7) (fun _ _ => rfl)) (de_name 2) (nomark _)) (dss_one (ds_app 4 (de_tup (da_cons (de_ix ix_seq pr_ix (de_ix ix_seq pr_ix (de_name 0) (de_name 3) (fun _ _ => rfl)) (de_name 5) (fun _ _ => rfl)) (da_cons (de_ix ix_seq pr_ix (de_ix ix_seq pr_ix (de_name 0) (de_name 3) (fun _ _ => rfl)) (de_name 6) (fun _ _ => rfl)) (da_cons de_int (da_cons (de_name 3) da_nil))))) (ht := pe_bm PySem.F.plainAttrs_list PySem.F.slot_list_append PySem.F.type_list_append mt_append (pv 4) (pa_cons (de_tup (da_cons (de_ix ix_seq pr_ix (de_ix ix_seq pr_ix (de_name 0) (de_name 3) (fun _ _ => rfl)) (de_name 5) (fun _ _ => rfl)) (da_cons (de_ix ix_seq pr_ix (de_ix ix_seq pr_ix (de_name 0) (de_name 3) (fun _ _ => rfl)) (de_name 6) (fun _ _ => rfl)) (da_cons de_int (da_cons (de_name 3) da_nil))))) pa_nil)))) dss_nil)))) (dss_one (ds_ret (de_callB (cr_sortD hr.units) pr_sorted rfl g.z_sorted PyProof.Rows.boot_sorted (da_cons (de_name 4) da_nil)))))))
/-! ### _law_bound -/
abbrev s__law_bound : Stmt := topS 32
theorem sc__law_bound : FnScope ["kind", "at", "pieces", "piece", "before", "behind"] ["kind", "at", "pieces"] (defScope s__law_bound) := ⟨rfl, rfl, rfl, by decide +kernel, rfl, by decide +kernel, by decide +kernel⟩
def B__law_bound : FS := (fSeq (fSetI 4 (fCall hTuple (faCons (fLc (fIt (fName 2)) [3] (gOne 3) (fTr (f2 hEq (f2 hIx (fName 3) (fImm (.int 2))) (fImm (.int 0)))) (f2 hIx (fName 3) (fImm (.int 3)))) faNil))) (fSeq (fSetI 5 (fCall hTuple (faCons (fLc (fIt (fName 2)) [3] (gOne 3) (fTr (f2 hEq (f2 hIx (fName 3) (fImm (.int 2))) (fImm (.int 1)))) (f2 hIx (fName 3) (fImm (.int 3)))) faNil))) (fRet (fTup (faCons (fName 0) (faCons (fName 1) (faCons (fCall hMin (faCons (fLc (fIt (fName 2)) [3] (gOne 3) fYes (f2 hIx (fName 3) (fImm (.int 0)))) faNil)) (faCons (fCall hMax (faCons (fLc (fIt (fName 2)) [3] (gOne 3) fYes (f2 hIx (fName 3) (fImm (.int 1)))) faNil)) (faCons (fName 4) (faCons (fName 5) faNil))))))))))
def F__law_bound : List AV → RF := mkF 3 6 B__law_bound
theorem ok__law_bound (g : G K mg) : FnOk P w K mg base (L2.CX P w) 1 g.a__law_bound g.d__law_bound ["kind", "at", "pieces"] (spD K (Cn g) fld F__law_bound) :=
  fn_okD (k := 0) g.F__law_bound sc__law_bound fun cdv A outer s H E Z B0 L hr => (dss_cons (ds_setI 4 sc__law_bound.nd (de_callTy call_tuple_of pr_tuple rfl g.z_tuple PyProof.Rows.boot_tuple (da_cons (de_lc (own := [("piece", 3)]) rfl sc__law_bound.nd (di_it (de_name 2)) (blkOk_by (by kernel_rfl)) (fun _ _ _ _ _ => (pg_name (i := 3) sc__law_bound.nd rfl (by first | exact .inl rfl | exact .inr rfl))) (tq_one 3) (fun _ _ _ _ _ => (dts_one (dt_cmp (op_eqD hr.units) pr_eq (de_ix ix_seq pr_ix (de_name 3) de_int (fun _ _ => rfl)) de_int (nomark _)))) (fun _ _ _ _ _ => (de_ix ix_seq pr_ix (de_name 3) de_int (fun _ _ => rfl))) (by decide)) da_nil))) (dss_cons (ds_setI 5 sc__law_bound.nd (de_callTy call_tuple_of pr_tuple rfl g.z_tuple PyProof.Rows.boot_tuple (da_cons (de_lc (own := [("piece", 3)]) rfl sc__law_bound.nd (di_it (de_name 2)) (blkOk_by (by kernel_rfl)) (fun _ _ _ _ _ => (pg_name (i := 3) sc__law_bound.nd rfl (by first | exact .inl rfl | exact .inr rfl))) (tq_one 3) (fun _ _ _ _ _ => (dts_one (dt_cmp (op_eqD hr.units) pr_eq (de_ix ix_seq pr_ix (de_name 3) de_int (fun _ _ => rfl)) de_int (nomark _)))) (fun _ _ _ _ _ => (de_ix ix_seq pr_ix (de_name 3) de_int (fun _ _ => rfl))) (by decide)) da_nil))) (dss_one (ds_ret (de_tup (da_cons (de_name 0) (da_cons (de_name 1) (da_cons (de_callB (callR_or (cr_min rfl) (call_min2 rfl)) pr_min rfl g.z_min PyProof.Rows.boot_min (da_cons (de_lc (own := [("piece", 3)]) rfl sc__law_bound.nd (di_it (de_name 2)) (blkOk_by (by kernel_rfl)) (fun _ _ _ _ _ => (pg_name (i := 3) sc__law_bound.nd rfl (by first | exact .inl rfl | exact .inr rfl))) (tq_one 3) (fun _ _ _ _ _ => dts_nil) (fun _ _ _ _ _ => (de_ix ix_seq pr_ix (de_name 3) de_int (fun _ _ => rfl))) (by decide)) da_nil)) (da_cons (de_callB (callR_or (cr_max rfl) (call_max2 rfl)) pr_max rfl g.z_max PyProof.Rows.boot_max (da_cons (de_lc (own := [("piece", 3)]) rfl sc__law_bound.nd (di_it (de_name 2)) (blkOk_by (by kernel_rfl)) (fun _ _ _ _ _ => (pg_name (i := 3) sc__law_bound.nd rfl (by first | exact .inl rfl | exact .inr rfl))) (tq_one 3) (fun _ _ _ _ _ => dts_nil) (fun _ _ _ _ _ => (de_ix ix_seq pr_ix (de_name 3) de_int (fun _ _ => rfl))) (by decide)) da_nil)) (da_cons (de_name 4) (da_cons (de_name 5) da_nil)))))))))))
/-! ### _law_bounds -/
abbrev s__law_bounds : Stmt := topS 33
theorem sc__law_bounds : FnScope ["rooms", "here", "piece", "at", "reach", "room", "kind", "found", "begin", "far", "end"] ["rooms"] (defScope s__law_bounds) := ⟨rfl, rfl, rfl, by decide +kernel, rfl, by decide +kernel, by decide +kernel⟩
def B__law_bounds : FS := (fSeq (fSetO 7 (fLst faNil)) (fSeq (fFor (fIt (fI (fLst (faCons (fTup (faCons (fImm (.str "level")) (faCons (fImm (.int 1)) (faCons (fImm (.int 3)) faNil)))) (faCons (fTup (faCons (fImm (.str "up")) (faCons (fImm (.int 0)) (faCons (fImm (.int 2)) faNil)))) faNil))))) (gMany [6, 8, 10]) (fSeq (fSetI 9 (fCall hMax (faCons (fLc (fIt (fName 0)) [5] (gOne 5) fYes (f2 hIx (fName 5) (fName 10))) faNil))) (fFor (fIt (fI (fSortSet (faCons (fLc (fIt (fName 0)) [5] (gOne 5) fYes (f2 hIx (fName 5) (fName 8))) faNil)))) (gOne 3) (fSeq (fPar 1 4 true false (faCons (fLst faNil) (faCons (fImm (.int 0)) faNil))) (fSeq (fFor (fIt (fI (fIf (fTr (fChain (fImm (.int 0)) (fcLink hLt (fName 3) (fcLast hLt (fName 9))))) (fCallF F__law_pieces (faCons (fName 0) (faCons (fName 6) (faCons (fName 3) faNil)))) (fLst faNil)))) (gOne 2) (fSeq (fIfS (fAnd (fTr (f2 hGt (fCall hLen (faCons (fName 1) faNil)) (fImm (.int 0)))) (fTr (f2 hGe (f2 hIx (fName 2) (fImm (.int 0))) (fName 4)))) (fFrz 1 (fSeq (fApp 7 (fCallF F__law_bound (faCons (fName 6) (faCons (fName 3) (faCons (fName 1) faNil))))) (fSetO 1 (fLst faNil)))) fNx) (fSeq (fSetI 4 (fIf (fTr (f2 hEq (fCall hLen (faCons (fName 1) faNil)) (fImm (.int 0)))) (f2 hIx (fName 2) (fImm (.int 1))) (fCall hMax (faCons (fName 4) (faCons (f2 hIx (fName 2) (fImm (.int 1))) faNil))))) (fApp 1 (fName 2))))) (fIfS (fTr (f2 hGt (fCall hLen (faCons (fName 1) faNil)) (fImm (.int 0)))) (fFrz 1 (fApp 7 (fCallF F__law_bound (faCons (fName 6) (faCons (fName 3) (faCons (fName 1) faNil)))))) fNx)))))) (fRet (fCall hSorted (faCons (fName 7) faNil)))))
def F__law_bounds : List AV → RF := mkF 1 11 B__law_bounds
theorem ok__law_bounds (g : G K mg) : FnOk P w K mg base (L2.CX P w) 2 g.a__law_bounds g.d__law_bounds ["rooms"] (spD K (Cn g) fld F__law_bounds) :=
  fn_okD (k := 1) g.F__law_bounds sc__law_bounds fun cdv A outer s H E Z B0 L hr => (dss_cons (ds_setO 7 sc__law_bounds.nd (de_lst da_nil)) (dss_cons (ds_for (passes_of rfl) rfl (di_it (de_imm (de_lst (da_cons (de_tup (da_cons de_str (da_cons de_int (da_cons de_int da_nil)))) (da_cons (de_tup (da_cons de_str (da_cons de_int (da_cons de_int da_nil)))) da_nil))))) (pg_tup rfl (pgs_cons (pg_name (i := 6) sc__law_bounds.nd rfl (by first | exact .inl rfl | exact .inr rfl)) (pgs_cons (pg_name (i := 8) sc__law_bounds.nd rfl (by first | exact .inl rfl | exact .inr rfl)) (pgs_cons (pg_name (i := 10) sc__law_bounds.nd rfl (by first | exact .inl rfl | exact .inr rfl)) pgs_nil)))) (tq_many (tqs_cons 6 (tqs_cons 8 (tqs_cons 10 tqs_nil)))) (dss_cons (ds_setI 9 sc__law_bounds.nd (de_callB (callR_or (cr_max rfl) (call_max2 rfl)) pr_max rfl g.z_max PyProof.Rows.boot_max (da_cons (de_lc (own := [("room", 5)]) rfl sc__law_bounds.nd (di_it (de_name 0)) (blkOk_by (by kernel_rfl)) (fun _ _ _ _ _ => (pg_name (i := 5) sc__law_bounds.nd rfl (by first | exact .inl rfl | exact .inr rfl))) (tq_one 5) (fun _ _ _ _ _ => dts_nil) (fun _ _ _ _ _ => (de_ix ix_seq pr_ix (de_name 5) (de_name 10) (fun _ _ => rfl))) (by decide)) da_nil))) (dss_one (ds_for (passes_of rfl) rfl (di_it (de_imm (de_sortSet rfl rfl g.z_sorted rfl g.z_set (da_cons (de_lc (own := [("room", 5)]) rfl sc__law_bounds.nd (di_it (de_name 0)) (blkOk_by (by kernel_rfl)) (fun _ _ _ _ _ => (pg_name (i := 5) sc__law_bounds.nd rfl (by first | exact .inl rfl | exact .inr rfl))) (tq_one 5) (fun _ _ _ _ _ => dts_nil) (fun _ _ _ _ _ => (de_ix ix_seq pr_ix (de_name 5) (de_name 8) (fun _ _ => rfl))) (by decide)) da_nil)))) (pg_name (i := 3) sc__law_bounds.nd rfl (by first | exact .inl rfl | exact .inr rfl)) (tq_one 3) (dss_cons (ds_par 1 4 true false rfl sc__law_bounds.nd (da_cons (de_lst da_nil) (da_cons de_int da_nil)) (by decide)) (dss_cons (ds_for (passes_of rfl) rfl (di_it (de_imm (de_if (dt_chain de_int (ct_link op_lt pr_cmp (de_name 3) (ct_last op_lt pr_cmp (de_name 9)))) (de_call (ok__law_pieces g) (hr.mono (by omega)) g.g__law_pieces g.F__law_pieces.kp g.b__law_pieces (takes_of rfl rfl rfl rfl) (da_cons (de_name 0) (da_cons (de_name 6) (da_cons (de_name 3) da_nil)))) (de_lst da_nil)))) (pg_name (i := 2) sc__law_bounds.nd rfl (by first | exact .inl rfl | exact .inr rfl)) (tq_one 2) (dss_cons (ds_if (PW.pt (dw_and (dt_cmp op_gt pr_cmp (de_callB call_len_seq pr_len rfl g.z_len PySem.boot_len (da_cons (de_name 1) da_nil)) de_int (nomark _)) (dw_and1 (dt_cmp op_ge pr_cmp (de_ix ix_seq pr_ix (de_name 2) de_int (fun _ _ => rfl)) (de_name 4) (nomark _))))) (dss_frz 1 (dss_cons (ds_app 7 (de_call (ok__law_bound g) (hr.mono (by omega)) g.g__law_bound g.F__law_bound.kp g.b__law_bound (takes_of rfl rfl rfl rfl) (da_cons (de_name 6) (da_cons (de_name 3) (da_cons (de_name 1) da_nil)))) (ht := pe_bm PySem.F.plainAttrs_list PySem.F.slot_list_append PySem.F.type_list_append mt_append (pv 7) (pa_cons (de_call (ok__law_bound g) (hr.mono (by omega)) g.g__law_bound g.F__law_bound.kp g.b__law_bound (takes_of rfl rfl rfl rfl) (da_cons (de_name 6) (da_cons (de_name 3) (da_cons (de_name 1) da_nil)))) pa_nil))) (dss_one (ds_setO 1 sc__law_bounds.nd (de_lst da_nil))))) dss_nil) (dss_cons (ds_setI 4 sc__law_bounds.nd (de_if (dt_cmp (op_eqD hr.units) pr_eq (de_callB call_len_seq pr_len rfl g.z_len PySem.boot_len (da_cons (de_name 1) da_nil)) de_int (nomark _)) (de_ix ix_seq pr_ix (de_name 2) de_int (fun _ _ => rfl)) (de_callB (callR_or (cr_max rfl) (call_max2 rfl)) pr_max rfl g.z_max PyProof.Rows.boot_max (da_cons (de_name 4) (da_cons (de_ix ix_seq pr_ix (de_name 2) de_int (fun _ _ => rfl)) da_nil))))) (dss_one (ds_app 1 (de_name 2) (ht := pe_bm PySem.F.plainAttrs_list PySem.F.slot_list_append PySem.F.type_list_append mt_append (pv 1) (pa_cons (de_name 2) pa_nil))))))) (dss_one (ds_if (dt_cmp op_gt pr_cmp (de_callB call_len_seq pr_len rfl g.z_len PySem.boot_len (da_cons (de_name 1) da_nil)) de_int (nomark _)) (dss_frz 1 (dss_one (ds_app 7 (de_call (ok__law_bound g) (hr.mono (by omega)) g.g__law_bound g.F__law_bound.kp g.b__law_bound (takes_of rfl rfl rfl rfl) (da_cons (de_name 6) (da_cons (de_name 3) (da_cons (de_name 1) da_nil)))) (ht := pe_bm PySem.F.plainAttrs_list PySem.F.slot_list_append PySem.F.type_list_append mt_append (pv 7) (pa_cons (de_call (ok__law_bound g) (hr.mono (by omega)) g.g__law_bound g.F__law_bound.kp g.b__law_bound (takes_of rfl rfl rfl rfl) (da_cons (de_name 6) (da_cons (de_name 3) (da_cons (de_name 1) da_nil)))) pa_nil))))) dss_nil)))))))) (dss_one (ds_ret (de_callB (cr_sortD hr.units) pr_sorted rfl g.z_sorted PyProof.Rows.boot_sorted (da_cons (de_name 7) da_nil))))))
/-! ### _law_named -/
abbrev s__law_named : Stmt := topS 34
theorem sc__law_named : FnScope ["rooms", "wall"] ["rooms"] (defScope s__law_named) := ⟨rfl, rfl, rfl, by decide +kernel, rfl, by decide +kernel, by decide +kernel⟩
def B__law_named : FS := (fRet (fCall hSorted (faCons (fLc (fIt (fI (fCallF F__law_bounds (faCons (fName 0) faNil)))) [1] (gOne 1) fYes (fTup (faCons (f2 hIx (fName 1) (fImm (.int 0))) (faCons (fCall hTuple (faCons (fCall hSorted (faCons (f2 hIx (fName 1) (fImm (.int 4))) faNil)) faNil)) (faCons (fCall hTuple (faCons (fCall hSorted (faCons (f2 hIx (fName 1) (fImm (.int 5))) faNil)) faNil)) faNil))))) faNil)))
def F__law_named : List AV → RF := mkF 1 2 B__law_named
theorem ok__law_named (g : G K mg) : FnOk P w K mg base (L2.CX P w) 3 g.a__law_named g.d__law_named ["rooms"] (spD K (Cn g) fld F__law_named) :=
  fn_okD (k := 2) g.F__law_named sc__law_named fun cdv A outer s H E Z B0 L hr => (dss_one (ds_ret (de_callB (cr_sortD hr.units) pr_sorted rfl g.z_sorted PyProof.Rows.boot_sorted (da_cons (de_lc (own := [("wall", 1)]) rfl sc__law_named.nd (di_it (de_imm (de_call (ok__law_bounds g) (hr.mono (by omega)) g.g__law_bounds g.F__law_bounds.kp g.b__law_bounds (takes_of rfl rfl rfl rfl) (da_cons (de_name 0) da_nil)))) (blkOk_by (by kernel_rfl)) (fun _ _ _ _ _ => (pg_name (i := 1) sc__law_named.nd rfl (by first | exact .inl rfl | exact .inr rfl))) (tq_one 1) (fun _ _ _ _ _ => dts_nil) (fun _ _ _ _ _ => (de_tup (da_cons (de_ix ix_seq pr_ix (de_name 1) de_int (fun _ _ => rfl)) (da_cons (de_callTy call_tuple_of pr_tuple rfl g.z_tuple PyProof.Rows.boot_tuple (da_cons (de_callB (cr_sortD hr.units) pr_sorted rfl g.z_sorted PyProof.Rows.boot_sorted (da_cons (de_ix ix_seq pr_ix (de_name 1) de_int (fun _ _ => rfl)) da_nil)) da_nil)) (da_cons (de_callTy call_tuple_of pr_tuple rfl g.z_tuple PyProof.Rows.boot_tuple (da_cons (de_callB (cr_sortD hr.units) pr_sorted rfl g.z_sorted PyProof.Rows.boot_sorted (da_cons (de_ix ix_seq pr_ix (de_name 1) de_int (fun _ _ => rfl)) da_nil)) da_nil)) da_nil))))) (by decide)) da_nil))))
/-! ### _law_first_bar -/
abbrev s__law_first_bar : Stmt := topS 35
theorem sc__law_first_bar : FnScope ["order", "j", "k", "a", "b", "c", "d", "i"] ["order"] (defScope s__law_first_bar) := ⟨rfl, rfl, rfl, by decide +kernel, rfl, by decide +kernel, by decide +kernel⟩
def B__law_first_bar : FS := (fSeq (fFor (fRng1 (faCons (fCall hLen (faCons (fName 0) faNil)) faNil)) (gOne 7) (fFor (fRng2 (faCons (fI (f2 hAdd (fName 7) (fImm (.int 1)))) (faCons (f2 hSub (fCall hLen (faCons (fName 0) faNil)) (fImm (.int 1))) faNil))) (gOne 1) (fFor (fRng2 (faCons (fI (f2 hAdd (fName 1) (fImm (.int 2)))) (faCons (fCall hLen (faCons (fName 0) faNil)) faNil))) (gOne 2) (fSeq (fTgt (gMany [3, 4, 5, 6]) (fTup (faCons (f2 hIx (fName 0) (fName 7)) (faCons (f2 hIx (fName 0) (fName 1)) (faCons (f2 hIx (fName 0) (f2 hAdd (fName 1) (fImm (.int 1)))) (faCons (f2 hIx (fName 0) (fName 2)) faNil)))))) (fIfS (fOr (fTr (fChain (fName 5) (fcLink hLt (fName 3) (fcLink hLt (fName 6) (fcLast hLt (fName 4)))))) (fTr (fChain (fName 4) (fcLink hLt (fName 6) (fcLink hLt (fName 3) (fcLast hLt (fName 5))))))) (fRet (fTup (faCons (fName 7) (faCons (fName 1) (faCons (fName 2) faNil))))) fNx))))) (fRet (fImm .none)))
def F__law_first_bar : List AV → RF := mkF 1 8 B__law_first_bar
theorem ok__law_first_bar (g : G K mg) : FnOk P w K mg base (L2.CX P w) 1 g.a__law_first_bar g.d__law_first_bar ["order"] (spD K (Cn g) fld F__law_first_bar) :=
  fn_okD (k := 0) g.F__law_first_bar sc__law_first_bar fun cdv A outer s H E Z B0 L hr => (dss_cons (ds_for (passes_of rfl) rfl (di_rng1 rfl g.z_range (da_cons (de_callB call_len_seq pr_len rfl g.z_len PySem.boot_len (da_cons (de_name 0) da_nil)) da_nil)) (pg_name (i := 7) sc__law_first_bar.nd rfl (by first | exact .inl rfl | exact .inr rfl)) (tq_one 7) (dss_one (ds_for (passes_of rfl) rfl (di_rng2 rfl g.z_range (da_cons (de_imm (de_bin op_addD pr_add (de_name 7) de_int)) (da_cons (de_bin op_sub pr_sub (de_callB call_len_seq pr_len rfl g.z_len PySem.boot_len (da_cons (de_name 0) da_nil)) de_int) da_nil))) (pg_name (i := 1) sc__law_first_bar.nd rfl (by first | exact .inl rfl | exact .inr rfl)) (tq_one 1) (dss_one (ds_for (passes_of rfl) rfl (di_rng2 rfl g.z_range (da_cons (de_imm (de_bin op_addD pr_add (de_name 1) de_int)) (da_cons (de_callB call_len_seq pr_len rfl g.z_len PySem.boot_len (da_cons (de_name 0) da_nil)) da_nil))) (pg_name (i := 2) sc__law_first_bar.nd rfl (by first | exact .inl rfl | exact .inr rfl)) (tq_one 2) (dss_cons (ds_tgt (de_tup (da_cons (de_ix ix_seq pr_ix (de_name 0) (de_name 7) (fun _ _ => rfl)) (da_cons (de_ix ix_seq pr_ix (de_name 0) (de_name 1) (fun _ _ => rfl)) (da_cons (de_ix ix_seq pr_ix (de_name 0) (de_bin op_addD pr_add (de_name 1) de_int) (fun _ _ => rfl)) (da_cons (de_ix ix_seq pr_ix (de_name 0) (de_name 2) (fun _ _ => rfl)) da_nil))))) (pg_tup rfl (pgs_cons (pg_name (i := 3) sc__law_first_bar.nd rfl (by first | exact .inl rfl | exact .inr rfl)) (pgs_cons (pg_name (i := 4) sc__law_first_bar.nd rfl (by first | exact .inl rfl | exact .inr rfl)) (pgs_cons (pg_name (i := 5) sc__law_first_bar.nd rfl (by first | exact .inl rfl | exact .inr rfl)) (pgs_cons (pg_name (i := 6) sc__law_first_bar.nd rfl (by first | exact .inl rfl | exact .inr rfl)) pgs_nil))))) (tq_many (tqs_cons 3 (tqs_cons 4 (tqs_cons 5 (tqs_cons 6 tqs_nil)))))) (dss_one (ds_if (PW.pt (dw_or (dt_chain (de_name 5) (ct_link op_lt pr_cmp (de_name 3) (ct_link op_lt pr_cmp (de_name 6) (ct_last op_lt pr_cmp (de_name 4))))) (dw_or1 (dt_chain (de_name 4) (ct_link op_lt pr_cmp (de_name 6) (ct_link op_lt pr_cmp (de_name 3) (ct_last op_lt pr_cmp (de_name 5)))))))) (dss_one (ds_ret (de_tup (da_cons (de_name 7) (da_cons (de_name 1) (da_cons (de_name 2) da_nil)))))) dss_nil)))))))) (dss_one (ds_ret de_non)))
/-! ### _law_all_orders -/
abbrev s__law_all_orders : Stmt := topS 36
theorem sc__law_all_orders : FnScope ["many", "number", "row", "longer", "rows", "step"] ["many"] (defScope s__law_all_orders) := ⟨rfl, rfl, rfl, by decide +kernel, rfl, by decide +kernel, by decide +kernel⟩
def B__law_all_orders : FS := (fSeq (fSetI 4 (fLst (faCons (fTup faNil) faNil))) (fSeq (fFor (fRng1 (faCons (fName 0) faNil)) (gOne 5) (fSeq (fSetI 3 (fLst faNil)) (fSeq (fFor (fIt (fName 4)) (gOne 2) (fSetI 3 (f2 hAdd (fName 3) (fLc (fRng1 (faCons (fName 0) faNil)) [1] (gOne 1) (fTr (f2 (hIn true) (fName 1) (fName 2))) (fI (f2 hAdd (fName 2) (fTup (faCons (fName 1) faNil)))))))) (fSetI 4 (fName 3))))) (fRet (fLc (fIt (fName 4)) [2] (gOne 2) (fTr (f2 hIsN (fCallF F__law_first_bar (faCons (fName 2) faNil)) (fImm .none))) (fName 2)))))
def F__law_all_orders : List AV → RF := mkF 1 6 B__law_all_orders
theorem ok__law_all_orders (g : G K mg) : FnOk P w K mg base (L2.CX P w) 2 g.a__law_all_orders g.d__law_all_orders ["many"] (spD K (Cn g) fld F__law_all_orders) :=
  fn_okD (k := 1) g.F__law_all_orders sc__law_all_orders fun cdv A outer s H E Z B0 L hr => (dss_cons (ds_setI 4 sc__law_all_orders.nd (de_lst (da_cons (de_tup da_nil) da_nil))) (dss_cons (ds_for (passes_of rfl) rfl (di_rng1 rfl g.z_range (da_cons (de_name 0) da_nil)) (pg_name (i := 5) sc__law_all_orders.nd rfl (by first | exact .inl rfl | exact .inr rfl)) (tq_one 5) (dss_cons (ds_setI 3 sc__law_all_orders.nd (de_lst da_nil)) (dss_cons (ds_for (passes_of rfl) rfl (di_it (de_name 4)) (pg_name (i := 2) sc__law_all_orders.nd rfl (by first | exact .inl rfl | exact .inr rfl)) (tq_one 2) (dss_one (ds_setI 3 sc__law_all_orders.nd (de_bin op_addD pr_add (de_name 3) (de_lc (own := [("number", 1)]) rfl sc__law_all_orders.nd (di_rng1 rfl g.z_range (da_cons (de_name 0) da_nil)) (blkOk_by (by kernel_rfl)) (fun _ _ _ _ _ => (pg_name (i := 1) sc__law_all_orders.nd rfl (by first | exact .inl rfl | exact .inr rfl))) (tq_one 1) (fun _ _ _ _ _ => (dts_one (dt_cmp (op_notMem (hu65 hr)) pr_in (de_name 1) (de_name 2) (by rfl)))) (fun _ _ _ _ _ => (de_imm (de_bin op_addD pr_add (de_name 2) (de_tup (da_cons (de_name 1) da_nil))))) (by decide)))))) (dss_one (ds_setI 4 sc__law_all_orders.nd (de_name 3)))))) (dss_one (ds_ret (de_lc (own := [("row", 2)]) rfl sc__law_all_orders.nd (di_it (de_name 4)) (blkOk_by (by kernel_rfl)) (fun _ _ _ _ _ => (pg_name (i := 2) sc__law_all_orders.nd rfl (by first | exact .inl rfl | exact .inr rfl))) (tq_one 2) (fun _ _ _ _ _ => (dts_one (dt_cmp op_isN pr_isN (de_call (ok__law_first_bar g) (hr.mono (by omega)) g.g__law_first_bar g.F__law_first_bar.kp g.b__law_first_bar takes0 (da_cons (de_name 2) da_nil)) de_non (nomark _)))) (fun _ _ _ _ _ => (de_name 2)) (by decide))))))
/-! ### _law_refusal -/
abbrev s__law_refusal : Stmt := topS 37
theorem sc__law_refusal : FnScope ["kind", "many", "number", "e"] ["kind", "many", "number"] (defScope s__law_refusal) := ⟨rfl, rfl, rfl, by decide +kernel, rfl, by decide +kernel, by decide +kernel⟩
def B__law_refusal : FS := (fSeq (fTry (fIfS (fTr (f2 hEq (fName 0) (fImm (.int 0)))) (fDrop (fCallF F_orders (faCons (fName 1) faNil))) (fDrop (fCallF F_order_number (faCons (fName 1) (faCons (fName 2) faNil))))) ((mt_NoCount, (some 3), (fun _ => (fRet (fImm (.str "count"))))) :: ((mt_NoNumber, (some 3), (fun _ => (fRet (fImm (.str "number"))))) :: ((mt_TooMany, (some 3), (fun e => if e.cls = 4 then (fRet (fLst (faCons (fImm (.str "many")) (faCons (fXarg e 3) faNil)))) else fNo)) :: ((mt_FloorError, none, (fun _ => (fRet (fImm (.str "other"))))) :: []))))) (fRet (fImm (.str "none"))))
def F__law_refusal : List AV → RF := mkF 3 4 B__law_refusal
theorem ok__law_refusal (g : G K mg) : FnOk P w K mg base (L2.CX P w) 5 g.a__law_refusal g.d__law_refusal ["kind", "many", "number"] (spD K (Cn g) fld F__law_refusal) :=
  fn_okD (k := 4) g.F__law_refusal sc__law_refusal fun cdv A outer s H E Z B0 L hr => (dss_cons (ds_try rfl rfl sc__law_refusal.nd (takes_of rfl rfl rfl rfl) (fun W' pn xe tk po => (dss_one (ds_if (dt_cmp (op_eqD hr.units) pr_eq (de_name 0) de_int (nomark _)) (dss_one (ds_expr (de_call (ok_orders g) (hr.mono (by omega)) g.g_orders g.F_orders.kp g.b_orders tk (da_cons (de_name 1) da_nil)))) (dss_one (ds_expr (de_call (ok_order_number g) (hr.mono (by omega)) g.g_order_number g.F_order_number.kp g.b_order_number tk (da_cons (de_name 1) (da_cons (de_name 2) da_nil)))))))) (.cons (m_NoCount g) (.cons (m_NoNumber g) (.cons (m_TooMany g) (.cons (m_FloorError g) .nil)))) (.consAs (i := 3) ⟨rfl, by decide, .inl g.g_NoCount⟩ rfl rfl (fun a oe cls d pn hz hf => suite_of fun e B hx => (dss_one (ds_ret de_str))) (.consAs (i := 3) ⟨rfl, by decide, .inl g.g_NoNumber⟩ rfl rfl (fun a oe cls d pn hz hf => suite_of fun e B hx => (dss_one (ds_ret de_str))) (.consAs (i := 3) ⟨rfl, by decide, .inl g.g_TooMany⟩ rfl rfl (fun a oe cls d pn hz hf => suite_of fun e B hx => by
      by_cases he : e.cls = 4
      · rw [if_pos he]; exact (dss_one (ds_ret (de_lst (da_cons de_str (da_cons (de_xf (i := 3) g.x_TooMany g.n_TooMany hz hf hx (fun c x hc _ => by rw [he] at hc ⊢; exact ⟨(Option.some.inj hc).symm, rfl⟩)) da_nil)))))
      · rw [if_neg he]; exact dss_never) (.cons ⟨rfl, by decide, .inl g.g_FloorError⟩ (fun a oe cls d pn hz hf => suite_of fun e B hx => (dss_one (ds_ret de_str))) .nil))))) (dss_one (ds_ret de_str)))
/-! ### law -/
abbrev s_law : Stmt := topS 38
theorem sc_law : FnScope ["script", "due", "one", "wrong", "hand", "other", "many", "turn", "eight"] ["script"] (defScope s_law) := ⟨rfl, rfl, rfl, by decide +kernel, rfl, by decide +kernel, by decide +kernel⟩
def B_law : FS := (fSeq (fSetO 4 (fCallF F__law_hand (faCons (fName 0) faNil))) (fSeq (fSetI 6 (f2 hAdd (fImm (.int 1)) (fCallF F__law_draw (faCons (fName 4) (faCons (fImm (.int 6)) faNil))))) (fSeq (fSetI 1 (fCallF F__law_all_orders (faCons (fName 6) faNil))) (fSeq (fIfS (fOr (fNot (fTr (fCallF (F__law_kept 12) (faCons (fI (fCallF F_orders (faCons (fName 6) faNil))) (faCons (fName 1) faNil))))) (fNot (fTr (fCallF (F__law_kept 12) (faCons (fI (fCallF F_weak_count (faCons (fName 6) faNil))) (faCons (fCall hLen (faCons (fName 1) faNil)) faNil)))))) (fRet (fImm (.bool false))) fNx) (fSeq (fFor (fRng1 (faCons (fImm (.int 4)) faNil)) (gOne 7) (fSeq (fPar 2 5 false false (faCons (fI (fCallF F__law_draw (faCons (fName 4) (faCons (fCall hLen (faCons (fName 1) faNil)) faNil)))) (faCons (fI (fCallF F__law_draw (faCons (fName 4) (faCons (fCall hLen (faCons (fName 1) faNil)) faNil)))) faNil))) (fSeq (fIfS (fNot (fTr (fCallF (F__law_kept 12) (faCons (fI (fCallF F_order_number (faCons (fName 6) (faCons (fName 2) faNil)))) (faCons (f2 hIx (fName 1) (fName 2)) faNil))))) (fRet (fImm (.bool false))) fNx) (fSeq (fIfS (fTr (f2 hNe (f2 hEq (fCallF F__law_named (faCons (fI (fCallF F_floor_of_order (faCons (f2 hIx (fName 1) (fName 2)) faNil))) faNil)) (fCallF F__law_named (faCons (fI (fCallF F_floor_of_order (faCons (f2 hIx (fName 1) (fName 5)) faNil))) faNil))) (f2 hEq (fName 2) (fName 5)))) (fRet (fImm (.bool false))) fNx) (fSeq (fSetI 3 (fCallF F__law_some (faCons (fName 4) (faCons (fI (fLst (faCons (fCall hLen (faCons (fName 1) faNil)) (faCons (f1 hNeg (fImm (.int 1))) (faCons (fImm (.bool true)) (faCons (fImm .none) (faCons (fImm (.str "0")) (faCons (fTup (faCons (fImm (.int 0)) faNil)) faNil)))))))) faNil)))) (fIfS (fTr (f2 hNe (fCallF F__law_refusal (faCons (fImm (.int 1)) (faCons (fName 6) (faCons (fName 3) faNil)))) (fImm (.str "number")))) (fRet (fImm (.bool false))) fNx)))))) (fSeq (fFor (fIt (fI (fLst (faCons (fImm (.int 0)) (faCons (fImm (.int 25)) (faCons (f1 hNeg (fImm (.int 2))) (faCons (fImm (.bool true)) (faCons (fImm .none) (faCons (fImm (.str "4")) (faCons (fTup (faCons (fImm (.int 3)) faNil)) faNil)))))))))) (gOne 3) (fIfS (fOr (fTr (f2 hNe (fCallF F__law_refusal (faCons (fImm (.int 0)) (faCons (fName 3) (faCons (fImm (.int 0)) faNil)))) (fImm (.str "count")))) (fTr (f2 hNe (fCallF F__law_refusal (faCons (fImm (.int 1)) (faCons (fName 3) (faCons (fImm .none) faNil)))) (fImm (.str "count"))))) (fRet (fImm (.bool false))) fNx)) (fSeq (fSetI 8 (f2 hAdd (fImm (.int 8)) (fCallF F__law_draw (faCons (fName 4) (faCons (fImm (.int 17)) faNil))))) (fRet (fAndV (f2 hEq (fCallF F__law_refusal (faCons (fImm (.int 0)) (faCons (fName 8) (faCons (fImm (.int 0)) faNil)))) (fLst (faCons (fImm (.str "many")) (faCons (fImm (.int 7)) faNil)))) (f2 hEq (fCallF F__law_refusal (faCons (fImm (.int 1)) (faCons (fName 8) (faCons (fImm .none) faNil)))) (fLst (faCons (fImm (.str "many")) (faCons (fImm (.int 7)) faNil)))))))))))))
def F_law : List AV → RF := mkF 1 9 B_law
theorem ok_law (g : G K mg) : FnOk P w K mg base (L2.CX P w) 14 g.a_law g.d_law ["script"] (spD K (Cn g) fld F_law) :=
  fn_okD (k := 13) g.F_law sc_law fun cdv A outer s H E Z B0 L hr => (dss_cons (ds_setO 4 sc_law.nd (de_call (ok__law_hand g) (hr.mono (by omega)) g.g__law_hand g.F__law_hand.kp g.b__law_hand (takes_of rfl rfl rfl rfl) (da_cons (de_name 0) da_nil))) (dss_cons (ds_setI 6 sc_law.nd (de_bin op_addD pr_add de_int (de_call (ok__law_draw g) (hr.mono (by omega)) g.g__law_draw g.F__law_draw.kp g.b__law_draw (takes_of rfl rfl rfl rfl) (da_cons (de_name 4) (da_cons de_int da_nil))))) (dss_cons (ds_setI 1 sc_law.nd (de_call (ok__law_all_orders g) (hr.mono (by omega)) g.g__law_all_orders g.F__law_all_orders.kp g.b__law_all_orders (takes_of rfl rfl rfl rfl) (da_cons (de_name 6) da_nil))) (dss_cons (ds_if (PW.pt (dw_or (dt_not (dt_val (de_call (ok__law_kept g 12) (hr.mono (by omega)) g.g__law_kept g.F__law_kept.kp g.b__law_kept (takes_of rfl rfl rfl rfl) (da_cons (de_imm (de_call (ok_orders g) (hr.mono (by omega)) g.g_orders g.F_orders.kp g.b_orders (takes_of rfl rfl rfl rfl) (da_cons (de_name 6) da_nil))) (da_cons (de_name 1) da_nil))))) (dw_or1 (dt_not (dt_val (de_call (ok__law_kept g 12) (hr.mono (by omega)) g.g__law_kept g.F__law_kept.kp g.b__law_kept (takes_of rfl rfl rfl rfl) (da_cons (de_imm (de_call (ok_weak_count g) (hr.mono (by omega)) g.g_weak_count g.F_weak_count.kp g.b_weak_count (takes_of rfl rfl rfl rfl) (da_cons (de_name 6) da_nil))) (da_cons (de_callB call_len_seq pr_len rfl g.z_len PySem.boot_len (da_cons (de_name 1) da_nil)) da_nil)))))))) (dss_one (ds_ret de_bl)) dss_nil) (dss_cons (ds_for (passes_of rfl) rfl (di_rng1 rfl g.z_range (da_cons de_int da_nil)) (pg_name (i := 7) sc_law.nd rfl (by first | exact .inl rfl | exact .inr rfl)) (tq_one 7) (dss_cons (ds_par 2 5 false false rfl sc_law.nd (da_cons (de_imm (de_call (ok__law_draw g) (hr.mono (by omega)) g.g__law_draw g.F__law_draw.kp g.b__law_draw (takes_of rfl rfl rfl rfl) (da_cons (de_name 4) (da_cons (de_callB call_len_seq pr_len rfl g.z_len PySem.boot_len (da_cons (de_name 1) da_nil)) da_nil)))) (da_cons (de_imm (de_call (ok__law_draw g) (hr.mono (by omega)) g.g__law_draw g.F__law_draw.kp g.b__law_draw (takes_of rfl rfl rfl rfl) (da_cons (de_name 4) (da_cons (de_callB call_len_seq pr_len rfl g.z_len PySem.boot_len (da_cons (de_name 1) da_nil)) da_nil)))) da_nil)) (by decide)) (dss_cons (ds_if (dt_not (dt_val (de_call (ok__law_kept g 12) (hr.mono (by omega)) g.g__law_kept g.F__law_kept.kp g.b__law_kept (takes_of rfl rfl rfl rfl) (da_cons (de_imm (de_call (ok_order_number g) (hr.mono (by omega)) g.g_order_number g.F_order_number.kp g.b_order_number (takes_of rfl rfl rfl rfl) (da_cons (de_name 6) (da_cons (de_name 2) da_nil)))) (da_cons (de_ix ix_seq pr_ix (de_name 1) (de_name 2) (fun _ _ => rfl)) da_nil))))) (dss_one (ds_ret de_bl)) dss_nil) (dss_cons (ds_if (dt_cmp (op_neD hr.units) pr_ne (de_cmp (op_eqD hr.units) pr_eq (de_call (ok__law_named g) (hr.mono (by omega)) g.g__law_named g.F__law_named.kp g.b__law_named (takes_of rfl rfl rfl rfl) (da_cons (de_imm (de_call (ok_floor_of_order g) (hr.mono (by omega)) g.g_floor_of_order g.F_floor_of_order.kp g.b_floor_of_order (takes_of rfl rfl rfl rfl) (da_cons (de_ix ix_seq pr_ix (de_name 1) (de_name 2) (fun _ _ => rfl)) da_nil))) da_nil)) (de_call (ok__law_named g) (hr.mono (by omega)) g.g__law_named g.F__law_named.kp g.b__law_named (takes_of rfl rfl rfl rfl) (da_cons (de_imm (de_call (ok_floor_of_order g) (hr.mono (by omega)) g.g_floor_of_order g.F_floor_of_order.kp g.b_floor_of_order (takes_of rfl rfl rfl rfl) (da_cons (de_ix ix_seq pr_ix (de_name 1) (de_name 5) (fun _ _ => rfl)) da_nil))) da_nil)) (nomark _)) (de_cmp (op_eqD hr.units) pr_eq (de_name 2) (de_name 5) (nomark _)) (nomark _)) (dss_one (ds_ret de_bl)) dss_nil) (dss_cons (ds_setI 3 sc_law.nd (de_call (ok__law_some g) (hr.mono (by omega)) g.g__law_some g.F__law_some.kp g.b__law_some (takes_of rfl rfl rfl rfl) (da_cons (de_name 4) (da_cons (de_imm (de_lst (da_cons (de_callB call_len_seq pr_len rfl g.z_len PySem.boot_len (da_cons (de_name 1) da_nil)) (da_cons (de_un un_neg pr_neg de_int) (da_cons de_bl (da_cons de_non (da_cons de_str (da_cons (de_tup (da_cons de_int da_nil)) da_nil)))))))) da_nil)))) (dss_one (ds_if (dt_cmp (op_neD hr.units) pr_ne (de_call (ok__law_refusal g) (hr.mono (by omega)) g.g__law_refusal g.F__law_refusal.kp g.b__law_refusal (takes_of rfl rfl rfl rfl) (da_cons de_int (da_cons (de_name 6) (da_cons (de_name 3) da_nil)))) de_str (nomark _)) (dss_one (ds_ret de_bl)) dss_nil))))))) (dss_cons (ds_for (passes_of rfl) rfl (di_it (de_imm (de_lst (da_cons de_int (da_cons de_int (da_cons (de_un un_neg pr_neg de_int) (da_cons de_bl (da_cons de_non (da_cons de_str (da_cons (de_tup (da_cons de_int da_nil)) da_nil)))))))))) (pg_name (i := 3) sc_law.nd rfl (by first | exact .inl rfl | exact .inr rfl)) (tq_one 3) (dss_one (ds_if (PW.pt (dw_or (dt_cmp (op_neD hr.units) pr_ne (de_call (ok__law_refusal g) (hr.mono (by omega)) g.g__law_refusal g.F__law_refusal.kp g.b__law_refusal (takes_of rfl rfl rfl rfl) (da_cons de_int (da_cons (de_name 3) (da_cons de_int da_nil)))) de_str (nomark _)) (dw_or1 (dt_cmp (op_neD hr.units) pr_ne (de_call (ok__law_refusal g) (hr.mono (by omega)) g.g__law_refusal g.F__law_refusal.kp g.b__law_refusal (takes_of rfl rfl rfl rfl) (da_cons de_int (da_cons (de_name 3) (da_cons de_non da_nil)))) de_str (nomark _))))) (dss_one (ds_ret de_bl)) dss_nil))) (dss_cons (ds_setI 8 sc_law.nd (de_bin op_addD pr_add de_int (de_call (ok__law_draw g) (hr.mono (by omega)) g.g__law_draw g.F__law_draw.kp g.b__law_draw (takes_of rfl rfl rfl rfl) (da_cons (de_name 4) (da_cons de_int da_nil))))) (dss_one (ds_ret (de_and (de_cmp (op_eqD hr.units) pr_eq (de_call (ok__law_refusal g) (hr.mono (by omega)) g.g__law_refusal g.F__law_refusal.kp g.b__law_refusal (takes_of rfl rfl rfl rfl) (da_cons de_int (da_cons (de_name 8) (da_cons de_int da_nil)))) (de_lst (da_cons de_str (da_cons de_int da_nil))) (nomark _)) (de_one (de_cmp (op_eqD hr.units) pr_eq (de_call (ok__law_refusal g) (hr.mono (by omega)) g.g__law_refusal g.F__law_refusal.kp g.b__law_refusal (takes_of rfl rfl rfl rfl) (da_cons de_int (da_cons (de_name 8) (da_cons de_non da_nil)))) (de_lst (da_cons de_str (da_cons de_int da_nil))) (nomark _)))))))))))))
end
end DLP
end

set_option Elab.async false
set_option linter.all false
set_option maxRecDepth 100000
set_option maxHeartbeats 4000000
noncomputable section
namespace DLP
open PySem PySem.Spec PyProof.Rows DL
/-! ### the draws -/
theorem hEq_int (i j : Int) : hEq (.int i) (.int j) = some (.val (.bool (i == j))) := rfl
theorem hx0 {a b c d e : D} : hIx (.list [a, b, c, d, e]) (.int 0) = some (.val a) := rfl
theorem hx1 {a b c d e : D} : hIx (.list [a, b, c, d, e]) (.int 1) = some (.val b) := rfl
theorem hx2 {a b c d e : D} : hIx (.list [a, b, c, d, e]) (.int 2) = some (.val c) := rfl
theorem hx3 {a b c d e : D} : hIx (.list [a, b, c, d, e]) (.int 3) = some (.val d) := rfl
theorem hx4 {a b c d e : D} : hIx (.list [a, b, c, d, e]) (.int 4) = some (.val e) := rfl
theorem pa1 {a b c d e x : D} : putAt 1 x [a, b, c, d, e] = some [a, x, c, d, e] := rfl
theorem pa2 {a b c d e x : D} : putAt 2 x [a, b, c, d, e] = some [a, b, x, d, e] := rfl
theorem pa3 {a b c d e x : D} : putAt 3 x [a, b, c, d, e] = some [a, b, c, x, e] := rfl
theorem pa4 {a b c d e x : D} : putAt 4 x [a, b, c, d, e] = some [a, b, c, d, x] := rfl
theorem mul_r {i j : Int} (h : small64 j = true) : hMul (.int i) (.int j) = some (.val (.int (i * j))) := by
  show (if (small64 i || small64 j) = true then _ else _) = _
  rw [h, Bool.or_true]
  rfl
theorem mul_l {i j : Int} (h : small64 i = true) : hMul (.int i) (.int j) = some (.val (.int (i * j))) := by
  show (if (small64 i || small64 j) = true then _ else _) = _
  rw [h, Bool.true_or]
  rfl
theorem pow18 : hPow (.int 10) (.int 18) = some (.val (.int 1000000000000000000)) := rfl
theorem mod_ok {i j : Int} (h : j ≠ 0) : hMod (.int i) (.int j) = some (.val (.int (i.fmod j))) := if_pos h
theorem div_ok {i j : Int} (h : j ≠ 0) (h2 : j.natAbs < 1073741824) : hDiv (.int i) (.int j) = some (.val (.int (i.fdiv j))) := if_pos ⟨h, h2⟩
def Hand (xs : List D) : Prop := ∃ (cells : List Int) (pos left mix count : Int), xs = [.list (cells.map .int), .int pos, .int left, .int mix, .int count] ∧ (∀ c ∈ cells, 0 ≤ c) ∧ 0 ≤ pos ∧ 0 ≤ left
theorem ix_cell {cells : List Int} {pos : Int} (h0 : 0 ≤ pos) (h1 : pos < cells.length) : ∃ c, hIx (.list (cells.map .int)) (.int pos) = some (.val (.int c)) ∧ c ∈ cells := by
  obtain ⟨k, rfl⟩ : ∃ k : Nat, pos = k := ⟨pos.toNat, by omega⟩
  have hp : k < cells.length := by omega
  refine ⟨cells[k], ?_, List.getElem_mem hp⟩
  have e : (cells.map PyData.int)[k]? = some (.int cells[k]) := by
    rw [List.getElem?_map, List.getElem?_eq_getElem hp]
    rfl
  show (atF (cells.map PyData.int) k).map PO.val = _
  rw [atF_eq, L2.atI_nat e]
  rfl
theorem small_rem {i : Int} (h0 : 0 ≤ i) (h1 : i < 10000000000) : small64 i = true := by
  unfold small64
  rw [Bool.and_eq_true, decide_eq_true_eq, decide_eq_true_eq]
  omega
theorem m1 (i : Int) : hMul (.int i) (.int 48271) = some (.val (.int (i * 48271))) := mul_r rfl
theorem m2 (i : Int) : hMul (.int i) (.int 69621) = some (.val (.int (i * 69621))) := mul_r rfl
theorem m3 (j : Int) : hMul (.int 6007) (.int j) = some (.val (.int (6007 * j))) := mul_l rfl
theorem m4 (i j : Int) : hMul (.int (i.fmod 2147483629)) (.int j) = some (.val (.int (i.fmod 2147483629 * j))) := mul_l (small_rem (Int.fmod_nonneg_of_pos _ (by decide)) (by have := Int.fmod_lt_of_pos i (show (0 : Int) < 2147483629 by decide); omega))
theorem m5 (i j : Int) : hMul (.int (i.fmod 2147483647)) (.int j) = some (.val (.int (i.fmod 2147483647 * j))) := mul_l (small_rem (Int.fmod_nonneg_of_pos _ (by decide)) (by have := Int.fmod_lt_of_pos i (show (0 : Int) < 2147483647 by decide); omega))
theorem r1 (i : Int) : hMod (.int i) (.int 2147483647) = some (.val (.int (i.fmod 2147483647))) := mod_ok (by decide)
theorem r2 (i : Int) : hMod (.int i) (.int 2147483629) = some (.val (.int (i.fmod 2147483629))) := mod_ok (by decide)
theorem r3 (i : Int) : hMod (.int i) (.int 2147483587) = some (.val (.int (i.fmod 2147483587))) := mod_ok (by decide)
theorem q1 (i : Int) : hDiv (.int i) (.int 1013) = some (.val (.int (i.fdiv 1013))) := div_ok (by decide) (by decide)
theorem q2 (i : Int) : hDiv (.int i) (.int 2011) = some (.val (.int (i.fdiv 2011))) := div_ok (by decide) (by decide)
theorem q3 (i : Int) : hDiv (.int i) (.int 32) = some (.val (.int (i.fdiv 32))) := div_ok (by decide) (by decide)
/-- the draw's contract -/
theorem draw_ok {xs : List D} (h : Hand xs) {n : Int} (h1 : 1 ≤ n) (h2 : n ≤ 1000000) : ∃ d xs', 0 ≤ d ∧ d < n ∧ Hand xs' ∧ F__law_draw [.lent xs, .imm (.int n)] = .ret (.imm (.int d)) [.lent xs', .imm (.int n)] := by
  obtain ⟨cells, pos, left, mix, count, rfl, hc, hp, hl⟩ := h
  have nz : n ≠ 0 := by omega
  have na : n.natAbs < 1073741824 := by omega
  by_cases hleft : left > 0
  · -- digits of a great cell
    have e1 : (left == 0) = false := by
      rw [beq_eq_false_iff_ne]
      omega
    have e2 : decide (left > 0) = true := decide_eq_true hleft
    refine ⟨left.fmod n, _, ?_, ?_, ⟨cells, pos, left.fdiv n, mix, count, rfl, hc, hp, ?_⟩, ?_⟩
    · exact Int.fmod_nonneg_of_pos _ (by omega)
    · exact Int.fmod_lt_of_pos _ (by omega)
    · exact Int.fdiv_nonneg hl (by omega)
    · simp only [F__law_draw, B__law_draw, mkF, s0, av1, List.length_cons, List.length_nil, List.map_cons, List.map_nil, List.replicate, List.cons_append, List.nil_append, fSeq, fSetI, fSetO, fI, fCallF, faCons, faNil, fName, g0, gs, z0, zs, R.bind, R.stm, toAVs, slotsOf, toImm, setD, fIfS, fOr, fAnd, fNot, fTr, asB, Bool.not_true, Bool.not_false, fChain, fImm, fcLink, fcLast, view, hLe, hLt, hGe, hGt, hCmp, fCall, views, hLen, oR, poR, fNx, fRet, f1, f2, outA, Option.map, if_true, fSub, fPar, setM, setC, Option.map_some, hAdd, hSub, hInt, fDrop, fAndV, fOrV, fNotV, fLst, fTup, allImm, fTgt, fRetN, fBk, fCt, fRaise0, hx2, hEq_int, e1, e2, mod_ok nz, div_ok nz na, pa2]
  · have l0 : left = 0 := by omega
    subst l0
    have e1 : ((0 : Int) == 0) = true := rfl
    have e2 : decide ((0 : Int) > 0) = false := rfl
    by_cases hpos : pos < cells.length
    · obtain ⟨c, hix, hmem⟩ := ix_cell hp hpos
      have c0 := hc c hmem
      have e3 : decide (pos < (cells.length : Int)) = true := decide_eq_true hpos
      by_cases hbig : c ≥ 1000000000000000000
      · have e4 : decide (1000000000000000000 ≤ c) = true := decide_eq_true hbig
        have e5 : decide (c > 0) = true := decide_eq_true (by omega)
        refine ⟨c.fmod n, _, ?_, ?_, ⟨cells, pos + 1, c.fdiv n, (mix * 48271 + c + 11).fmod 2147483647, count, rfl, hc, by omega, ?_⟩, ?_⟩
        · exact Int.fmod_nonneg_of_pos _ (by omega)
        · exact Int.fmod_lt_of_pos _ (by omega)
        · exact Int.fdiv_nonneg c0 (by omega)
        · simp only [F__law_draw, B__law_draw, mkF, s0, av1, List.length_cons, List.length_nil, List.map_cons, List.map_nil, List.replicate, List.cons_append, List.nil_append, fSeq, fSetI, fSetO, fI, fCallF, faCons, faNil, fName, g0, gs, z0, zs, R.bind, R.stm, toAVs, slotsOf, toImm, setD, fIfS, fOr, fAnd, fNot, fTr, asB, Bool.not_true, Bool.not_false, fChain, fImm, fcLink, fcLast, view, hLe, hLt, hGe, hGt, hCmp, fCall, views, hLen, oR, poR, fNx, fRet, f1, f2, outA, Option.map, if_true, fSub, fPar, setM, setC, Option.map_some, hAdd, hSub, hInt, fDrop, fAndV, fOrV, fNotV, fLst, fTup, allImm, fTgt, fRetN, fBk, fCt, fRaise0, e3, e4, e5, hix, hx0, hx1, hx2, hx3, hx4, hEq_int, e1, e2, m1, m2, m3, m4, m5, r1, r2, r3, q1, q2, q3, pow18, mod_ok nz, div_ok nz na, pa1, pa2, pa3, pa4, List.length_map]
      · have e4 : decide (1000000000000000000 ≤ c) = false := decide_eq_false hbig
        refine ⟨?d, _, ?ha, ?hb, ⟨cells, pos + 1, 0, (mix * 48271 + c + 11).fmod 2147483647, count + 1, rfl, hc, by omega, by omega⟩, ?hc⟩
        case hc =>
          simp only [F__law_draw, B__law_draw, mkF, s0, av1, List.length_cons, List.length_nil, List.map_cons, List.map_nil, List.replicate, List.cons_append, List.nil_append, fSeq, fSetI, fSetO, fI, fCallF, faCons, faNil, fName, g0, gs, z0, zs, R.bind, R.stm, toAVs, slotsOf, toImm, setD, fIfS, fOr, fAnd, fNot, fTr, asB, Bool.not_true, Bool.not_false, fChain, fImm, fcLink, fcLast, view, hLe, hLt, hGe, hGt, hCmp, fCall, views, hLen, oR, poR, fNx, fRet, f1, f2, outA, Option.map, if_true, fSub, fPar, setM, setC, Option.map_some, hAdd, hSub, hInt, fDrop, fAndV, fOrV, fNotV, fLst, fTup, allImm, fTgt, fRetN, fBk, fCt, fRaise0, e3, e4, hix, hx0, hx1, hx2, hx3, hx4, hEq_int, e1, e2, m1, m2, m3, m4, m5, r1, r2, r3, q1, q2, q3, pow18, mod_ok nz, div_ok nz na, pa1, pa2, pa3, pa4, List.length_map]
          rfl
        · exact Int.fmod_nonneg_of_pos _ (by omega)
        · exact Int.fmod_lt_of_pos _ (by omega)
    · have e3 : decide (pos < (cells.length : Int)) = false := decide_eq_false hpos
      refine ⟨?d2, _, ?ha2, ?hb2, ⟨cells, pos, 0, mix, count + 1, rfl, hc, by omega, by omega⟩, ?hc2⟩
      case hc2 =>
        simp only [F__law_draw, B__law_draw, mkF, s0, av1, List.length_cons, List.length_nil, List.map_cons, List.map_nil, List.replicate, List.cons_append, List.nil_append, fSeq, fSetI, fSetO, fI, fCallF, faCons, faNil, fName, g0, gs, z0, zs, R.bind, R.stm, toAVs, slotsOf, toImm, setD, fIfS, fOr, fAnd, fNot, fTr, asB, Bool.not_true, Bool.not_false, fChain, fImm, fcLink, fcLast, view, hLe, hLt, hGe, hGt, hCmp, fCall, views, hLen, oR, poR, fNx, fRet, f1, f2, outA, Option.map, if_true, fSub, fPar, setM, setC, Option.map_some, hAdd, hSub, hInt, fDrop, fAndV, fOrV, fNotV, fLst, fTup, allImm, fTgt, fRetN, fBk, fCt, fRaise0, e3, hx0, hx1, hx2, hx3, hx4, hEq_int, e1, e2, m1, m2, m3, m4, m5, r1, r2, r3, q1, q2, q3, pow18, mod_ok nz, div_ok nz na, pa1, pa2, pa3, pa4, List.length_map]
        rfl
      · exact Int.fmod_nonneg_of_pos _ (by omega)
      · exact Int.fmod_lt_of_pos _ (by omega)
end DLP
end

set_option Elab.async false
set_option linter.all false
set_option maxRecDepth 100000
set_option maxHeartbeats 4000000
noncomputable section
namespace DL
open PySem PySem.Spec PyProof.Rows

/-! ### how functions of data run: one step at a time -/
section
variable {f g : FS} {e e2 : FE} {u : FT} {s s1 s2 s3 : SD} {r : RS} {d d2 : D} {xs ys ds out : List D} {i j : Nat}
theorem rbind_ok {α β : Type} {a : α} {s : SD} {k : α → SD → R β} : (R.ok a s).bind k = k a s := rfl
theorem seq_nx (h : f s = .nx s1) (k : g s1 = r) : fSeq f g s = r := by
  unfold fSeq
  rw [h]
  exact k
theorem seq_rt {v : RV} (h : f s = .rt v s1) : fSeq f g s = .rt v s1 := by
  unfold fSeq
  rw [h]
theorem seq_ex {v : DExc} (h : f s = .ex v s1) : fSeq f g s = .ex v s1 := by
  unfold fSeq
  rw [h]
theorem fI_imm (h : e s = .ok (.imm d) s1) : fI e s = .ok (.imm d) s1 := by
  unfold fI
  rw [h]
  rfl
theorem fI_tmp (h : e s = .ok (.tmp xs) s1) : fI e s = .ok (.imm (.list xs)) s1 := by
  unfold fI
  rw [h]
  rfl
theorem setI_nx (h : e s = .ok (.imm d) s1) (h2 : setD s1 i (.imm d) = some s2) : fSetI i e s = .nx s2 := by
  unfold fSetI
  rw [fI_imm h]
  show (match setD s1 i (.imm d) with | some s2 => RS.nx s2 | none => .no) = _
  rw [h2]
theorem setI_tmp (h : e s = .ok (.tmp xs) s1) (h2 : setD s1 i (.imm (.list xs)) = some s2) : fSetI i e s = .nx s2 := by
  unfold fSetI
  rw [fI_tmp h]
  show (match setD s1 i (.imm (.list xs)) with | some s2 => RS.nx s2 | none => .no) = _
  rw [h2]
theorem setO_nx (h : e s = .ok (.tmp xs) s1) (h2 : setD s1 i (.own xs) = some s2) : fSetO i e s = .nx s2 := by
  unfold fSetO
  rw [h]
  show (match setD s1 i (.own xs) with | some s2 => RS.nx s2 | none => .no) = _
  rw [h2]
theorem ifS_t (h : u s = .ok true s1) (k : f s1 = r) : fIfS u f g s = r := by
  unfold fIfS
  rw [h]
  exact k
theorem ifS_f (h : u s = .ok false s1) (k : g s1 = r) : fIfS u f g s = r := by
  unfold fIfS
  rw [h]
  exact k
theorem ret_imm (h : e s = .ok (.imm d) s1) : fRet e s = .rt (.imm d) s1 := by
  unfold fRet
  rw [h]
  rfl
theorem ret_tmp (h : e s = .ok (.tmp xs) s1) : fRet e s = .rt (.tmp xs) s1 := by
  unfold fRet
  rw [h]
  rfl
theorem drop_nx {v : RV} (h : e s = .ok v s1) : fDrop e s = .nx s1 := by
  unfold fDrop
  rw [h]
  rfl
theorem drop_ex {v : DExc} (h : e s = .ex v s1) : fDrop e s = .ex v s1 := by
  unfold fDrop
  rw [h]
  rfl
theorem for_is {it : FI} {gg : D → SD → Option SD} {body : FS} (h : it s = .ok ds s1) (k : loopF gg body ds s1 = r) : fFor it gg body s = r := by
  unfold fFor
  rw [h]
  exact k
theorem lc_ok {it : FI} {gg : D → SD → Option SD} {cond : FT} {vs : List Nat} (h : it s = .ok ds s1) (hp : vs.all (plainAt s1) = true) (hl : loopC gg cond e vs ds (wipeD s1 vs) [] = .ok out s2) (hb : backD s1 s2 vs = s3) : fLc it vs gg cond e s = .ok (.tmp out) s3 := by
  unfold fLc
  rw [h]
  show (if vs.all (plainAt s1) then _ else _) = _
  rw [if_pos hp, hl, ← hb]
theorem it_list (h : e s = .ok (.imm (.list ds)) s1) : fIt e s = .ok ds s1 := by
  unfold fIt
  rw [h]
  rfl
theorem it_tup (h : e s = .ok (.imm (.tuple ds)) s1) : fIt e s = .ok ds s1 := by
  unfold fIt
  rw [h]
  rfl
theorem rng1_ok {fa : FA} {n : Nat} (h : fa s = .ok [.imm (.int n)] s1) (hb : n ≤ mx) : fRng1 fa s = .ok (rgFrom 0 n) s1 := by
  have hb' : bnd62 n = true := by
    unfold bnd62
    have : mx = 16000000 := rfl
    rw [Bool.and_eq_true, decide_eq_true_eq, decide_eq_true_eq]
    omega
  unfold fRng1
  rw [h, rbind_ok]
  dsimp only
  rw [if_pos hb', Int.toNat_natCast]
theorem tr_ok {v : RV} {b : Bool} (h : e s = .ok v s1) (h2 : asB v = some b) : fTr e s = .ok b s1 := by
  unfold fTr
  rw [h]
  show (match asB v with | some b => R.ok b s1 | none => .no) = _
  rw [h2]
theorem not_ok {b : Bool} (h : u s = .ok b s1) : fNot u s = .ok (!b) s1 := by
  unfold fNot
  rw [h]
  rfl
theorem not_t (h : u s = .ok true s1) : fNot u s = .ok false s1 := not_ok h
theorem not_f (h : u s = .ok false s1) : fNot u s = .ok true s1 := not_ok h
theorem or_t {v : FT} (h : u s = .ok true s1) : fOr u v s = .ok true s1 := by
  unfold fOr
  rw [h]
  rfl
theorem or_f {v : FT} (h : u s = .ok false s1) : fOr u v s = v s1 := by
  unfold fOr
  rw [h]
  rfl
theorem and_t {v : FT} (h : u s = .ok true s1) : fAnd u v s = v s1 := by
  unfold fAnd
  rw [h]
  rfl
theorem and_f {v : FT} (h : u s = .ok false s1) : fAnd u v s = .ok false s1 := by
  unfold fAnd
  rw [h]
  rfl
theorem andV_t {v : RV} (h : e s = .ok v s1) (h2 : asB v = some true) : fAndV e e2 s = e2 s1 := by
  unfold fAndV
  rw [h]
  show (match asB v with | some true => _ | some false => _ | none => _) = _
  rw [h2]
theorem f2_ok {h : D → D → Option PO} {r1 r2 : RV} {o : PO} (ha : e s = .ok r1 s1) (hb : e2 s1 = .ok r2 s2) (va : view s2 r1 = some d) (vb : view s2 r2 = some d2) (ho : h d d2 = some o) : f2 h e e2 s = poR s2 o := by
  unfold f2
  rw [ha]
  show (R.bind (e2 s1) _) = _
  rw [hb]
  show (match view s2 r1, view s2 r2 with | some d, some e => oR s2 (h d e) | _, _ => .no) = _
  rw [va, vb]
  show oR s2 (h d d2) = _
  rw [ho]
  rfl
theorem f1_ok {h : D → Option PO} {r1 : RV} {o : PO} (ha : e s = .ok r1 s1) (va : view s1 r1 = some d) (ho : h d = some o) : f1 h e s = poR s1 o := by
  unfold f1
  rw [ha]
  show (match view s1 r1 with | some d => oR s1 (h d) | none => .no) = _
  rw [va]
  show oR s1 (h d) = _
  rw [ho]
  rfl
theorem call_ok {h : List D → Option PO} {fa : FA} {rs : List RV} {o : PO} (ha : fa s = .ok rs s1) (va : views s1 rs = some ds) (ho : h ds = some o) : fCall h fa s = poR s1 o := by
  unfold fCall
  rw [ha]
  show (match views s1 rs with | some ds => oR s1 (h ds) | none => .no) = _
  rw [va]
  show oR s1 (h ds) = _
  rw [ho]
  rfl
theorem cons_ok {fa : FA} {v : RV} {rs : List RV} (h : e s = .ok v s1) (h2 : fa s1 = .ok rs s2) : faCons e fa s = .ok (v :: rs) s2 := by
  unfold faCons
  rw [h]
  show R.bind (fa s1) _ = _
  rw [h2]
  rfl
/-- calls: no list is lent -/
theorem callF_imm {F : List AV → RF} {fa : FA} {rs : List RV} {as as' : List AV} (ha : fa s = .ok rs s1) (ht : toAVs s1 rs = some as) (hs : slotsOf rs = []) (hF : F as = .ret (.imm d) as') : fCallF F fa s = .ok (.imm d) s1 := by
  unfold fCallF
  rw [ha]
  show (match toAVs s1 rs with | none => _ | some as => _) = _
  rw [ht]
  dsimp only
  rw [hs]
  dsimp only
  rw [hF]
theorem callF_tmp {F : List AV → RF} {fa : FA} {rs : List RV} {as as' : List AV} (ha : fa s = .ok rs s1) (ht : toAVs s1 rs = some as) (hs : slotsOf rs = []) (hF : F as = .ret (.tmp xs) as') : fCallF F fa s = .ok (.tmp xs) s1 := by
  unfold fCallF
  rw [ha]
  show (match toAVs s1 rs with | none => _ | some as => _) = _
  rw [ht]
  dsimp only
  rw [hs]
  dsimp only
  rw [hF]
theorem callF_exc {F : List AV → RF} {fa : FA} {rs : List RV} {as as' : List AV} {x : DExc} (ha : fa s = .ok rs s1) (ht : toAVs s1 rs = some as) (hs : slotsOf rs = []) (hF : F as = .exc x as') : fCallF F fa s = .ex x s1 := by
  unfold fCallF
  rw [ha]
  show (match toAVs s1 rs with | none => _ | some as => _) = _
  rw [ht]
  dsimp only
  rw [hs]
  dsimp only
  rw [hF]
/-- one list is lent -/
theorem callF_lent {F : List AV → RF} {fa : FA} {rs : List RV} {as as' : List AV} (ha : fa s = .ok rs s1) (ht : toAVs s1 rs = some as) (hs : slotsOf rs = [i]) (hF : F as = .ret (.imm d) as') (hsh : shape as as' = true) (hl : lentOf as' = some xs) (hc : setC s1 i (fun _ => some xs) = some s2) : fCallF F fa s = .ok (.imm d) s2 := by
  unfold fCallF
  rw [ha]
  show (match toAVs s1 rs with | none => _ | some as => _) = _
  rw [ht]
  dsimp only
  rw [hs]
  dsimp only
  rw [hF]
  dsimp only
  rw [if_pos hsh, hl]
  dsimp only
  rw [hc]
theorem mkF_imm {m n : Nat} {body : FS} {as as' : List AV} (hl : as.length = m) (h : body (s0 as n) = .rt (.imm d) s) (ho : outA as s = some as') : mkF m n body as = .ret (.imm d) as' := by
  unfold mkF
  rw [if_pos hl, h]
  dsimp only
  rw [ho]
theorem mkF_tmp {m n : Nat} {body : FS} {as as' : List AV} (hl : as.length = m) (h : body (s0 as n) = .rt (.tmp xs) s) (ho : outA as s = some as') : mkF m n body as = .ret (.tmp xs) as' := by
  unfold mkF
  rw [if_pos hl, h]
  dsimp only
  rw [ho]
end

/-! ### comprehensions and loops at once -/
section
variable {gg : D → SD → Option SD} {cond : FT} {elt : FE} {vs : List Nat} {s : SD}
theorem loopC_filter {p : D → Bool} {f : D → D} : ∀ (ds acc : List D), (∀ d ∈ ds, ∃ s1 s2, gg d s = some s1 ∧ cond s1 = .ok (p d) s2 ∧ (p d = false → wipeD s2 vs = s) ∧ (p d = true → ∃ s3, elt s2 = .ok (.imm (f d)) s3 ∧ wipeD s3 vs = s)) → acc.length + ds.length ≤ mx → loopC gg cond elt vs ds s acc = .ok (acc ++ (ds.filter p).map f) s
  | [], acc, _, _ => by
    rw [List.filter_nil, List.map_nil, List.append_nil]
    rfl
  | d :: ds, acc, h, hl => by
    obtain ⟨s1, s2, h1, h2, h3, h4⟩ := h d (List.mem_cons_self ..)
    rw [List.length_cons] at hl
    rw [loopC_cons, h1]
    dsimp only
    rw [h2]
    cases hp : p d with
    | false =>
      rw [List.filter_cons_of_neg (by rw [hp]; exact Bool.false_ne_true)]
      dsimp only
      rw [h3 hp]
      exact loopC_filter ds acc (fun d' m => h d' (List.mem_cons_of_mem _ m)) (by omega)
    | true =>
      obtain ⟨s3, h5, h6⟩ := h4 hp
      rw [List.filter_cons_of_pos hp]
      dsimp only
      rw [h5]
      dsimp only
      rw [if_pos (by omega), h6, loopC_filter ds _ (fun d' m => h d' (List.mem_cons_of_mem _ m)) (by rw [List.length_append, List.length_singleton]; omega), List.append_assoc]
      rfl
theorem loopC_map {f : D → D} (ds acc : List D) (h : ∀ d ∈ ds, ∃ s1 s2 s3, gg d s = some s1 ∧ cond s1 = .ok true s2 ∧ elt s2 = .ok (.imm (f d)) s3 ∧ wipeD s3 vs = s) (hl : acc.length + ds.length ≤ mx) : loopC gg cond elt vs ds s acc = .ok (acc ++ ds.map f) s := by
  have q := loopC_filter (gg := gg) (cond := cond) (elt := elt) (vs := vs) (s := s) (p := fun _ => true) (f := f) ds acc (fun d m => by
    obtain ⟨s1, s2, s3, h1, h2, h3, h4⟩ := h d m
    refine ⟨s1, s2, h1, h2, fun z => ?_, fun _ => ⟨s3, h3, h4⟩⟩
    cases z) hl
  rw [show ds.filter (fun _ => true) = ds from List.filter_eq_self.mpr fun _ _ => rfl] at q
  exact q
/-- a loop by what holds between two turns -/
theorem loopF_inv {body : FS} (I : List D → SD → Prop) : ∀ (pre ds : List D) (s : SD), I pre s → (∀ p d q s, pre ++ ds = p ++ d :: q → I p s → ∃ s1 s2, gg d s = some s1 ∧ (body s1 = .nx s2 ∨ body s1 = .ct s2) ∧ I (p ++ [d]) s2) → ∃ s', loopF gg body ds s = .nx s' ∧ I (pre ++ ds) s'
  | pre, [], s, h, _ => ⟨s, rfl, by rw [List.append_nil]; exact h⟩
  | pre, d :: ds, s, h, hs => by
    obtain ⟨s1, s2, h1, h2, h3⟩ := hs pre d ds s rfl h
    obtain ⟨s', h4, h5⟩ := loopF_inv I (pre ++ [d]) ds s2 h3 (fun p d' q s' e => hs p d' q s' (by rw [← e, List.append_assoc]; rfl))
    refine ⟨s', ?_, by rw [List.append_assoc] at h5; exact h5⟩
    unfold loopF
    rw [h1]
    dsimp only
    rcases h2 with h2 | h2
    · rw [h2]
      exact h4
    · rw [h2]
      exact h4
end
/-! ### what follows, by a predicate -/
def stepsTo (I : SD → Prop) : RS → Prop
  | .nx s => I s
  | .ct s => I s
  | _ => False
section
variable {P : RS → Prop} {f g : FS} {e e2 : FE} {u : FT} {s s1 s2 s3 : SD} {r : RS} {d d2 x : D} {xs ys ds out : List D} {i j : Nat}
theorem w_seq (h : f s = .nx s1) (k : P (g s1)) : P (fSeq f g s) := by
  rw [seq_nx h rfl]
  exact k
theorem w_rt {v : RV} (h : f s = .rt v s1) (k : P (.rt v s1)) : P (fSeq f g s) := by
  rw [seq_rt h]
  exact k
theorem w_eq (h : f s = r) (k : P r) : P (f s) := by
  rw [h]
  exact k
theorem w_if {b : Bool} (h : u s = .ok b s1) (kt : b = true → P (f s1)) (kf : b = false → P (g s1)) : P (fIfS u f g s) := by
  cases b with
  | true =>
    rw [ifS_t h rfl]
    exact kt rfl
  | false =>
    rw [ifS_f h rfl]
    exact kf rfl
theorem w_for {it : FI} {gg : D → SD → Option SD} {body : FS} (I : List D → SD → Prop) (h : it s = .ok ds s1) (h0 : I [] s1) (hs : ∀ p d q s, ds = p ++ d :: q → I p s → ∃ s1, gg d s = some s1 ∧ stepsTo (I (p ++ [d])) (body s1)) (k : ∀ s', I ds s' → P (g s')) : P (fSeq (fFor it gg body) g s) := by
  obtain ⟨s', h1, h2⟩ := loopF_inv (gg := gg) (body := body) I [] ds s1 h0 (fun p d q s e hI => by
    obtain ⟨s2, h3, h4⟩ := hs p d q s e hI
    refine ⟨s2, ?_⟩
    cases hb : body s2 with
    | nx s3 =>
      rw [hb] at h4
      exact ⟨s3, h3, .inl rfl, h4⟩
    | ct s3 =>
      rw [hb] at h4
      exact ⟨s3, h3, .inr rfl, h4⟩
    | bk s3 =>
      rw [hb] at h4
      exact h4.elim
    | rt v s3 =>
      rw [hb] at h4
      exact h4.elim
    | ex v s3 =>
      rw [hb] at h4
      exact h4.elim
    | no =>
      rw [hb] at h4
      exact h4.elim)
  rw [seq_nx (for_is h h1) rfl]
  exact k s' h2
theorem f2_val {h : D → D → Option PO} {r1 r2 : RV} (ha : e s = .ok r1 s1) (hb : e2 s1 = .ok r2 s2) (va : view s2 r1 = some d) (vb : view s2 r2 = some d2) (ho : h d d2 = some (.val x)) : f2 h e e2 s = .ok (.imm x) s2 := f2_ok ha hb va vb ho
theorem f1_val {h : D → Option PO} {r1 : RV} (ha : e s = .ok r1 s1) (va : view s1 r1 = some d) (ho : h d = some (.val x)) : f1 h e s = .ok (.imm x) s1 := f1_ok ha va ho
theorem call_val {h : List D → Option PO} {fa : FA} {rs : List RV} (ha : fa s = .ok rs s1) (va : views s1 rs = some ds) (ho : h ds = some (.val x)) : fCall h fa s = .ok (.imm x) s1 := call_ok ha va ho
theorem par_nx {fa : FA} {r1 r2 : RV} {m n : Bool} (ha : fa s = .ok [r1, r2] s1) (hmn : (m && n) = false) (h1 : setM m s1 i r1 = some s2) (h2 : setM n s2 j r2 = some s3) : fPar i j m n fa s = .nx s3 := by
  unfold fPar
  rw [ha]
  show (if (m && n) = true then RS.no else _) = _
  rw [if_neg (by rw [hmn]; exact Bool.false_ne_true)]
  show (match setM m s1 i r1 with | some s2 => _ | none => _) = _
  rw [h1]
  show (match setM n s2 j r2 with | some s3 => RS.nx s3 | none => _) = _
  rw [h2]
end
end DL
end

set_option Elab.async false
set_option linter.all false
set_option maxRecDepth 100000
set_option maxHeartbeats 4000000
noncomputable section
namespace DLP
open PySem PySem.Spec PyProof.Rows DL
/-! ### a thing is kept by itself -/
def fitK : Nat → D → Bool
  | n + 1, .tuple ds => decide (ds.length ≤ mx) && ds.all (fitK n)
  | n + 1, .list ds => decide (ds.length ≤ mx) && ds.all (fitK n)
  | _ + 1, .dict _ => false
  | _ + 1, .str x => SeqAt.shaped (.str x)
  | _ + 1, _ => true
  | 0, _ => false
theorem asBools_rep : ∀ n : Nat, asBools (List.replicate n (.bool true)) = some (List.replicate n true)
  | 0 => rfl
  | n + 1 => by
    rw [List.replicate_succ, List.replicate_succ]
    show (asBools (List.replicate n (.bool true))).map (true :: ·) = _
    rw [asBools_rep n]
    rfl
theorem hAll_rep (n : Nat) : hAll [.list (List.replicate n (.bool true))] = some (.val (.bool true)) := by
  show (asBools _).map _ = _
  rw [asBools_rep]
  show some (PO.val (.bool ((List.replicate n true).all id))) = _
  rw [List.all_replicate]
  cases n <;> rfl
theorem rng_mem {n : Nat} {d : D} (h : d ∈ rgFrom 0 n) : ∃ i : Nat, i < n ∧ d = .int i := by
  obtain ⟨i, hi⟩ := List.mem_iff_getElem?.mp h
  have hl := (List.getElem?_eq_some_iff.mp hi).1
  rw [rgFrom_len] at hl
  refine ⟨i, hl, ?_⟩
  rw [rgFrom_get _ _ _ _ hi, Int.zero_add]
theorem bnd_mx {n : Nat} (h : n ≤ mx) : bnd62 n = true := by
  unfold bnd62
  have : mx = 16000000 := rfl
  rw [Bool.and_eq_true, decide_eq_true_eq, decide_eq_true_eq]
  omega
theorem ix_nat {ds : List D} {i : Nat} (h : i < ds.length) : hIx (.tuple ds) (.int i) = some (.val ds[i]) ∧ hIx (.list ds) (.int i) = some (.val ds[i]) := by
  have e : atF ds i = some ds[i] := by
    rw [atF_eq, L2.atI_nat (List.getElem?_eq_getElem h)]
  constructor
  · show (atF ds i).map PO.val = _
    rw [e]
    rfl
  · show (atF ds i).map PO.val = _
    rw [e]
    rfl
theorem kept_refl : ∀ (n : Nat) (d : D), fitK n d = true → F__law_kept n [.imm d, .imm d] = .ret (.imm (.bool true)) [.imm d, .imm d]
  | 0, d, h => by cases d <;> cases h
  | n + 1, .none, h => rfl
  | n + 1, .bool true, h => rfl
  | n + 1, .bool false, h => rfl
  | n + 1, .int i, h => by
    refine mkF_imm rfl (s := [some (.imm (.int i)), some (.imm (.int i)), none]) ?_ rfl
    refine seq_nx (ifS_f (s1 := [some (.imm (.int i)), some (.imm (.int i)), none]) rfl rfl) ?_
    refine seq_nx (ifS_f (s1 := [some (.imm (.int i)), some (.imm (.int i)), none]) rfl rfl) ?_
    refine seq_nx (ifS_f (s1 := [some (.imm (.int i)), some (.imm (.int i)), none]) rfl rfl) ?_
    refine seq_rt (ifS_t (s1 := [some (.imm (.int i)), some (.imm (.int i)), none]) rfl ?_)
    refine ret_imm ((andV_t (v := .imm (.bool true)) (s1 := [some (.imm (.int i)), some (.imm (.int i)), none]) rfl rfl).trans ((andV_t (v := .imm (.bool true)) (s1 := [some (.imm (.int i)), some (.imm (.int i)), none]) rfl rfl).trans ?_))
    refine (f2_ok (s1 := [some (.imm (.int i)), some (.imm (.int i)), none]) (s2 := [some (.imm (.int i)), some (.imm (.int i)), none]) rfl rfl rfl rfl rfl).trans ?_
    show R.ok (RV.imm (.bool (decide (i = i)))) _ = _
    rw [decide_eq_true rfl]
  | n + 1, .str x, h => by
    refine mkF_imm rfl (s := [some (.imm (.str x)), some (.imm (.str x)), none]) ?_ rfl
    refine seq_nx (ifS_f (s1 := [some (.imm (.str x)), some (.imm (.str x)), none]) rfl rfl) ?_
    refine seq_nx (ifS_f (s1 := [some (.imm (.str x)), some (.imm (.str x)), none]) rfl rfl) ?_
    refine seq_nx (ifS_f (s1 := [some (.imm (.str x)), some (.imm (.str x)), none]) rfl rfl) ?_
    refine seq_nx (ifS_f (s1 := [some (.imm (.str x)), some (.imm (.str x)), none]) rfl rfl) ?_
    refine ret_imm ((andV_t (v := .imm (.bool true)) (s1 := [some (.imm (.str x)), some (.imm (.str x)), none]) rfl rfl).trans ?_)
    have q : hEq (.str x) (.str x) = some (.val (.bool true)) := by
      have hs : SeqAt.shaped (.str x) = true := h
      simp [hEq, eqF, hs, PyData.eqv]
    exact (f2_ok (s1 := [some (.imm (.str x)), some (.imm (.str x)), none]) (s2 := [some (.imm (.str x)), some (.imm (.str x)), none]) rfl rfl rfl rfl q)
  | n + 1, .dict xs, h => by cases h
  | n + 1, .tuple ds, h => by
    have h' : (decide (ds.length ≤ mx) && ds.all (fitK n)) = true := h
    rw [Bool.and_eq_true, decide_eq_true_eq, List.all_eq_true] at h'
    refine mkF_imm rfl (s := [some (.imm (.tuple ds)), some (.imm (.tuple ds)), none]) ?_ rfl
    refine seq_rt (ifS_t (s1 := [some (.imm (.tuple ds)), some (.imm (.tuple ds)), none]) rfl ?_)
    refine seq_nx (ifS_f (s1 := [some (.imm (.tuple ds)), some (.imm (.tuple ds)), none]) rfl rfl) ?_
    refine ret_imm ((andV_t (v := .imm (.bool true)) (s1 := [some (.imm (.tuple ds)), some (.imm (.tuple ds)), none]) ?_ rfl).trans ?_)
    · refine (f2_ok (s1 := [some (.imm (.tuple ds)), some (.imm (.tuple ds)), none]) (s2 := [some (.imm (.tuple ds)), some (.imm (.tuple ds)), none]) rfl rfl rfl rfl rfl).trans ?_
      show R.ok (RV.imm (.bool (decide ((ds.length : Int) = ds.length)))) _ = _
      rw [decide_eq_true rfl]
    · have q := loopC_map (gg := gOne 2) (cond := fYes) (elt := (fI (fCallF (F__law_kept n) (faCons (f2 hIx (fName 0) (fName 2)) (faCons (f2 hIx (fName 1) (fName 2)) faNil))))) (vs := [2]) (s := [some (.imm (.tuple ds)), some (.imm (.tuple ds)), none]) (f := fun _ => .bool true) (rgFrom 0 ds.length) [] (fun d m => by
        obtain ⟨i, hi, rfl⟩ := rng_mem m
        have ih := kept_refl n ds[i] (h'.2 _ (List.getElem_mem hi))
        refine ⟨_, _, _, rfl, rfl, fI_imm (callF_imm (cons_ok (v := .imm ds[i]) (f2_ok rfl rfl rfl rfl (ix_nat hi).1) (cons_ok (v := .imm ds[i]) (f2_ok rfl rfl rfl rfl (ix_nat hi).1) rfl)) rfl rfl ih), rfl⟩) (by rw [rgFrom_len]; simpa using h'.1)
      rw [List.nil_append, List.map_const', rgFrom_len] at q
      have lc := lc_ok (it := fRng1 (faCons (fCall hLen (faCons (fName 1) faNil)) faNil)) (s := [some (.imm (.tuple ds)), some (.imm (.tuple ds)), none]) (s1 := [some (.imm (.tuple ds)), some (.imm (.tuple ds)), none]) (s2 := [some (.imm (.tuple ds)), some (.imm (.tuple ds)), none]) (s3 := [some (.imm (.tuple ds)), some (.imm (.tuple ds)), none]) (rng1_ok rfl h'.1) rfl q rfl
      exact call_val (cons_ok lc rfl) rfl (hAll_rep _)
  | n + 1, .list ds, h => by
    have h' : (decide (ds.length ≤ mx) && ds.all (fitK n)) = true := h
    rw [Bool.and_eq_true, decide_eq_true_eq, List.all_eq_true] at h'
    refine mkF_imm rfl (s := [some (.imm (.list ds)), some (.imm (.list ds)), none]) ?_ rfl
    refine seq_rt (ifS_t (s1 := [some (.imm (.list ds)), some (.imm (.list ds)), none]) rfl ?_)
    refine seq_nx (ifS_f (s1 := [some (.imm (.list ds)), some (.imm (.list ds)), none]) rfl rfl) ?_
    refine ret_imm ((andV_t (v := .imm (.bool true)) (s1 := [some (.imm (.list ds)), some (.imm (.list ds)), none]) ?_ rfl).trans ?_)
    · refine (f2_ok (s1 := [some (.imm (.list ds)), some (.imm (.list ds)), none]) (s2 := [some (.imm (.list ds)), some (.imm (.list ds)), none]) rfl rfl rfl rfl rfl).trans ?_
      show R.ok (RV.imm (.bool (decide ((ds.length : Int) = ds.length)))) _ = _
      rw [decide_eq_true rfl]
    · have q := loopC_map (gg := gOne 2) (cond := fYes) (elt := (fI (fCallF (F__law_kept n) (faCons (f2 hIx (fName 0) (fName 2)) (faCons (f2 hIx (fName 1) (fName 2)) faNil))))) (vs := [2]) (s := [some (.imm (.list ds)), some (.imm (.list ds)), none]) (f := fun _ => .bool true) (rgFrom 0 ds.length) [] (fun d m => by
        obtain ⟨i, hi, rfl⟩ := rng_mem m
        have ih := kept_refl n ds[i] (h'.2 _ (List.getElem_mem hi))
        refine ⟨_, _, _, rfl, rfl, fI_imm (callF_imm (cons_ok (v := .imm ds[i]) (f2_ok rfl rfl rfl rfl (ix_nat hi).2) (cons_ok (v := .imm ds[i]) (f2_ok rfl rfl rfl rfl (ix_nat hi).2) rfl)) rfl rfl ih), rfl⟩) (by rw [rgFrom_len]; simpa using h'.1)
      rw [List.nil_append, List.map_const', rgFrom_len] at q
      have lc := lc_ok (it := fRng1 (faCons (fCall hLen (faCons (fName 1) faNil)) faNil)) (s := [some (.imm (.list ds)), some (.imm (.list ds)), none]) (s1 := [some (.imm (.list ds)), some (.imm (.list ds)), none]) (s2 := [some (.imm (.list ds)), some (.imm (.list ds)), none]) (s3 := [some (.imm (.list ds)), some (.imm (.list ds)), none]) (rng1_ok rfl h'.1) rfl q rfl
      exact call_val (cons_ok lc rfl) rfl (hAll_rep _)
end DLP
end

set_option Elab.async false
set_option linter.all false
set_option maxRecDepth 100000
set_option maxHeartbeats 4000000
noncomputable section
namespace DL
open PySem PySem.Spec PyProof.Rows L2
/-! ### the law's own call -/
theorem ints_dps {K : PySem.W.Frag} {B : Hp} : ∀ ns : List Int, DpAll K B (ns.map V.int) (ns.map PyData.int)
  | [] => .nil
  | n :: ns => .cons (.int n) (ints_dps ns)
def spT (K : PySem.W.Frag) : Sp := fun vs H Q _ => ∃ (a : Addr) (ns : List Int), vs = [.ref a] ∧ SqL K H a (ns.map V.int) ∧ ns.length ≤ 63 ∧ ∀ H', Q (.bl true) H'
theorem spT_of {K : PySem.W.Frag} {C : Nat → Option Addr} {fld : Nat → Str} {F : List AV → RF} (hF : ∀ ns : List Int, ns.length ≤ 63 → ∃ as', F [.imm (.list (ns.map .int))] = .ret (.imm (.bool true)) as') (vs : List V) (H : Hp) (Q : VK) (E : XK) (h : spT K vs H Q E) : spD K C fld F vs H Q E := by
  obtain ⟨a, ns, rfl, hS, hl, hq⟩ := h
  obtain ⟨as', e⟩ := hF ns hl
  refine ⟨H, [.imm (.list (ns.map .int))], Same.refl _, ⟨rfl, fun i d hi => ?_, fun i xs hi => ?_, fun i j b h1 h2 => ?_⟩, ?_⟩
  · match i, hi with
    | 0, hi =>
      cases hi
      exact ⟨_, rfl, .lst hS (ints_dps ns)⟩
    | i + 1, hi => simp at hi
  · match i, hi with
    | 0, hi => cases hi
    | i + 1, hi => simp at hi
  · match i, h1 with
    | 0, h1 => cases h1
    | i + 1, h1 => simp [lentL] at h1
  · rw [e]
    intro B' H' v hp hr
    cases hr
    exact hq H'
theorem exm_pair {K : PySem.W.Frag} {S C : Addr} {b : Bool} (h1 : PySem.W.subIn K (.ref C) (.type "BaseException") = some true) (h2 : PySem.W.isClsIn K C = true) (h3 : PySem.W.typeIn K (.ref C) = some (.type "type")) (h4 : PySem.W.subIn K (.ref S) (.ref C) = some b) : PySem.W.exmOne K (.ref S) (.ref C) = some b := by
  have e1 : (PySem.W.subIn K (.ref C) (.type "BaseException") == some true) = true := by
    rw [h1]
    rfl
  have e2 : ((PySem.W.clsIn K C).isSome && PySem.W.typeIn K (.ref C) == some (.type "type")) = true := by
    have h2' : (PySem.W.clsIn K C).isSome = true := h2
    rw [h2', h3]
    rfl
  show (if (PySem.W.subIn K (.ref C) (.type "BaseException") == some true) = true then (if ((PySem.W.clsIn K C).isSome && PySem.W.typeIn K (.ref C) == some (.type "type")) = true then PySem.W.subIn K (.ref S) (.ref C) else none) else none) = some b
  rw [if_pos e1, if_pos e2]
  exact h4
theorem cx_no {P : Program} (w : World) (H : Hp) (s : Shared) (e : Value) (s' : Shared) (h : L2.CX P w [] H s (fun _ _ _ => False) e s') : False := by
  obtain ⟨_, _, _, _, _, _, _, _, _, _, _, _, h⟩ := h
  exact h
end DL
end

set_option Elab.async false
set_option linter.all false
set_option maxRecDepth 100000
set_option maxHeartbeats 4000000
noncomputable section
namespace DLP
open PySem PySem.Spec PyProof.Rows DL
/-! ### the hand -/
theorem cut63 (ns : List D) : DL.cutD ns none (some 63) = ns.take 63 := by
  unfold DL.cutD
  rw [HT.sIx_none, show HT.sIx ns.length ns.length (some 63) = min 63 ns.length from HT.sIx_nat ns.length ns.length 63, Nat.sub_zero, List.drop_zero]
  by_cases h : 63 ≤ ns.length
  · rw [Nat.min_eq_left h]
  · rw [Nat.min_eq_right (by omega), List.take_of_length_le (Nat.le_refl _), List.take_of_length_le (by omega)]
def absI (z : Int) : Int := if z < 0 then -z else z
theorem absI_nn (z : Int) : 0 ≤ absI z := by
  unfold absI
  split <;> omega
def absD : D → D
  | .int z => .int (absI z)
  | _ => .none
theorem hand_ok (ns : List Int) : ∃ xs, Hand xs ∧ F__law_hand [.imm (.list (ns.map .int))] = .ret (.tmp xs) [.imm (.list (ns.map .int))] := by
  have hmul : ∀ j : Int, hMul (.int 7) (.int j) = some (.val (.int (7 * j))) := fun j => mul_l rfl
  have q := loopC_map (gg := gOne 1) (cond := fYes) (elt := (fCall hAbs (faCons (fCall hInt (faCons (fName 1) faNil)) faNil))) (vs := [1]) (s := [some (.imm (.list (ns.map .int))), none, none]) (f := absD) ((ns.take 63).map .int) [] (fun d m => by
      obtain ⟨z, _, rfl⟩ := List.mem_map.mp m
      exact ⟨[some (.imm (.list (ns.map .int))), some (.imm (.int z)), none], [some (.imm (.list (ns.map .int))), some (.imm (.int z)), none], [some (.imm (.list (ns.map .int))), some (.imm (.int z)), none], rfl, rfl, rfl, rfl⟩) (by
      rw [List.length_nil, List.length_map, List.length_take]
      have : mx = 16000000 := rfl
      omega)
  rw [List.nil_append, List.map_map] at q
  have e1 : fSl (fName 0) foNone (foSome (fImm (.int 63))) [some (.imm (.list (ns.map .int))), none, none] = .ok (.tmp ((ns.take 63).map .int)) [some (.imm (.list (ns.map .int))), none, none] := by
    have : DL.cutD (ns.map PyData.int) none (some 63) = (ns.take 63).map .int := by rw [cut63, List.map_take]
    rw [← this]
    rfl
  have lc := lc_ok (it := fIt (fI (fSl (fName 0) foNone (foSome (fImm (.int 63)))))) (s := [some (.imm (.list (ns.map .int))), none, none]) (s1 := [some (.imm (.list (ns.map .int))), none, none]) (s2 := [some (.imm (.list (ns.map .int))), none, none]) (s3 := [some (.imm (.list (ns.map .int))), none, none]) (it_list (fI_tmp e1)) rfl q rfl
  have em : (List.map (absD ∘ PyData.int) (ns.take 63)) = ((ns.take 63).map absI).map PyData.int := by
    rw [List.map_map]
    rfl
  rw [em] at lc
  refine ⟨_, ⟨(ns.take 63).map absI, 0, 0, 31 + 7 * (((ns.take 63).map absI).length : Nat), 0, rfl, fun c m => ?_, by omega, by omega⟩, ?_⟩
  · obtain ⟨z, _, rfl⟩ := List.mem_map.mp m
    exact absI_nn z
  · refine mkF_tmp rfl (s := [some (.imm (.list (ns.map .int))), none, some (.imm (.list (((ns.take 63).map absI).map .int)))]) ?_ rfl
    refine seq_nx (setI_tmp lc rfl) ?_
    refine ret_tmp ?_
    simp only [mkF, s0, av1, List.length_cons, List.length_nil, List.map_cons, List.map_nil, List.replicate, List.cons_append, List.nil_append, fSeq, fSetI, fSetO, fI, fCallF, faCons, faNil, fName, g0, gs, z0, zs, R.bind, R.stm, toAVs, slotsOf, toImm, setD, fIfS, fOr, fAnd, fNot, fTr, asB, Bool.not_true, Bool.not_false, fChain, fImm, fcLink, fcLast, view, hLe, hLt, hGe, hGt, hCmp, fCall, views, hLen, oR, poR, fNx, fRet, f1, f2, outA, Option.map, if_true, fSub, fPar, setM, setC, Option.map_some, hAdd, hSub, hInt, fDrop, fAndV, fOrV, fNotV, fLst, fTup, allImm, fTgt, fRetN, fBk, fCt, fRaise0, hmul, List.length_map]
    exact if_pos (by decide)
/-- a thing of a lot, drawn -/
theorem some_ok {xs : List D} (h : Hand xs) {ds : List D} (h1 : 1 ≤ ds.length) (h2 : ds.length ≤ 1000000) : ∃ (k : Nat) (d : D) (xs' : List D), ds[k]? = some d ∧ Hand xs' ∧ F__law_some [.lent xs, .imm (.list ds)] = .ret (.imm d) [.lent xs', .imm (.list ds)] := by
  obtain ⟨d, xs', d0, dn, hx, hF⟩ := draw_ok h (n := ds.length) (by omega) (by omega)
  obtain ⟨k, rfl⟩ : ∃ k : Nat, d = k := ⟨d.toNat, by omega⟩
  have hk : k < ds.length := by omega
  refine ⟨k, ds[k], xs', List.getElem?_eq_getElem hk, hx, mkF_imm rfl (s := [some (.lent xs'), some (.imm (.list ds))]) (ret_imm ?_) rfl⟩
  exact f2_val (r1 := .imm (.list ds)) (r2 := .imm (.int k)) rfl (callF_lent (rs := [.slot 0, .imm (.int ds.length)]) rfl rfl rfl hF rfl rfl rfl) rfl rfl (ix_nat hk).2
end DLP
end

set_option Elab.async false
set_option linter.all false
set_option maxRecDepth 1000000
set_option maxHeartbeats 4000000
noncomputable section
namespace DLP
open PySem PySem.Spec PyProof.Rows DL
def isT : RF → Bool
  | .ret (.imm (.bool true)) _ => true
  | _ => false
/-- an order: its floor, the names of its walls, their code -/
def chk (o : D) : Option Nat := match F_floor_of_order [.imm o] with
  | .ret (.imm fl) _ => (match F__law_named [.imm fl] with
    | .ret (.tmp xs) _ => if SeqAt.shaped (.list xs) && PyData.eqv (.list xs) (.list xs) then some (codeD 1 (.list xs)) else none
    | _ => none)
  | _ => none
def isC (o : Option Nat) (c : Nat) : Bool := match o with
  | some d => Nat.beq d c
  | none => false
def chks : List D → List Nat → Bool
  | [], [] => true
  | d :: ds, c :: cs => isC (chk d) c && chks ds cs
  | _, _ => false
theorem chks_app : ∀ {a b : List D} {c e : List Nat}, chks a c = true → chks b e = true → chks (a ++ b) (c ++ e) = true
  | [], b, [], e, _, h => h
  | [], b, _ :: _, e, h, _ => by cases h
  | _ :: _, b, [], e, h, _ => by cases h
  | x :: a, b, y :: c, e, h, h2 => by
    have h' : (isC (chk x) y && chks a c) = true := h
    rw [Bool.and_eq_true] at h'
    show (isC (chk x) y && chks (a ++ b) (c ++ e)) = true
    rw [h'.1, chks_app h'.2 h2]
    rfl
def notIn (c : Nat) : List Nat → Bool
  | [] => true
  | d :: r => !(Nat.beq c d) && notIn c r
def nodupB : List Nat → Bool
  | [] => true
  | c :: r => notIn c r && nodupB r
end DLP
end

set_option Elab.async false
set_option linter.all false
set_option maxRecDepth 100000
set_option maxHeartbeats 4000000
noncomputable section
namespace DLP
open PySem PySem.Spec PyProof.Rows DL
structure Tab (m : Int) (ds : List D) (cs : List Nat) : Prop where
  l1 : 1 ≤ ds.length
  l2 : ds.length ≤ 1000
  ord : F_orders [.imm (.int m)] = .ret (.tmp ds) [.imm (.int m)]
  all : F__law_all_orders [.imm (.int m)] = .ret (.tmp ds) [.imm (.int m)]
  weak : F_weak_count [.imm (.int m)] = .ret (.imm (.int ds.length)) [.imm (.int m)]
  fit : ds.all (fitK 11) = true
  fit2 : ds.all (fitK 12) = true
  chk : chks ds cs = true
  nod : ∀ i j c : Nat, cs[i]? = some c → cs[j]? = some c → i = j
theorem chks_get : ∀ {ds : List D} {cs : List Nat} {k : Nat} {d : D}, chks ds cs = true → ds[k]? = some d → ∃ c, cs[k]? = some c ∧ chk d = some c
  | [], _, _, _, _, h => by simp at h
  | _ :: _, [], _, _, h, _ => by cases h
  | x :: ds, y :: cs, k, d, h, e => by
    have h' : (isC (DLP.chk x) y && chks ds cs) = true := h
    rw [Bool.and_eq_true] at h'
    cases k with
    | zero =>
      cases e
      refine ⟨y, rfl, ?_⟩
      have q := h'.1
      unfold isC at q
      split at q
      · rename_i d' e'
        rw [e', Nat.eq_of_beq_eq_true q]
      · cases q
    | succ k => exact chks_get (k := k) h'.2 e
def bitsB (M : Nat) : Nat → List Nat → Bool
  | _, [] => true
  | acc, c :: r => !(Nat.testBit acc (c % M)) && bitsB M (acc ||| 2 ^ (c % M)) r
theorem bits_out {M : Nat} : ∀ {cs : List Nat} {acc c j : Nat}, bitsB M acc cs = true → Nat.testBit acc (c % M) = true → cs[j]? = some c → False
  | [], acc, c, j, _, _, e => by simp at e
  | d :: r, acc, c, j, h, hb, e => by
    have h' : (!(Nat.testBit acc (d % M)) && bitsB M (acc ||| 2 ^ (d % M)) r) = true := h
    rw [Bool.and_eq_true] at h'
    cases j with
    | zero =>
      cases e
      rw [hb] at h'
      exact absurd h'.1 Bool.false_ne_true
    | succ j => exact bits_out (c := c) (j := j) h'.2 (by rw [Nat.testBit_or, hb]; rfl) e
theorem bits_get {M : Nat} : ∀ {cs : List Nat} {acc i j c : Nat}, bitsB M acc cs = true → cs[i]? = some c → cs[j]? = some c → i = j
  | [], acc, i, j, c, _, e, _ => by simp at e
  | d :: r, acc, i, j, c, h, e, e' => by
    have h' : (!(Nat.testBit acc (d % M)) && bitsB M (acc ||| 2 ^ (d % M)) r) = true := h
    rw [Bool.and_eq_true] at h'
    have hd : Nat.testBit (acc ||| 2 ^ (d % M)) (d % M) = true := by
      rw [Nat.testBit_or, Nat.testBit_two_pow_self, Bool.or_true]
    cases i with
    | zero =>
      cases e
      cases j with
      | zero => rfl
      | succ j => exact (bits_out (j := j) h'.2 hd e').elim
    | succ i =>
      cases j with
      | zero =>
        cases e'
        exact (bits_out (j := i) h'.2 hd e).elim
      | succ j => rw [bits_get (i := i) (j := j) h'.2 e e']
theorem chk_ok {d : D} {c : Nat} (h : chk d = some c) : ∃ fl nm a1 a2, F_floor_of_order [.imm d] = .ret (.imm fl) a1 ∧ F__law_named [.imm fl] = .ret (.tmp nm) a2 ∧ SeqAt.shaped (.list nm) = true ∧ PyData.eqv (.list nm) (.list nm) = true ∧ c = codeD 1 (.list nm) := by
  unfold chk at h
  split at h
  · rename_i fl a1 e1
    split at h
    · rename_i nm a2 e2
      split at h
      · rename_i hz
        rw [Bool.and_eq_true] at hz
        exact ⟨fl, nm, a1, a2, e1, e2, hz.1, hz.2, (Option.some.inj h).symm⟩
      · cases h
    · cases h
  · cases h
theorem isint_int (i : Int) : F_is_integer [.imm (.int i)] = .ret (.imm (.bool true)) [.imm (.int i)] := by rfl
theorem number_ok {m : Int} {ds : List D} (hm : F_orders [.imm (.int m)] = .ret (.tmp ds) [.imm (.int m)]) {k : Nat} {d : D} (hk : ds[k]? = some d) : F_order_number [.imm (.int m), .imm (.int k)] = .ret (.imm d) [.imm (.int m), .imm (.int k)] := by
  have hl := (List.getElem?_eq_some_iff.mp hk).1
  have hd : ds[k] = d := (List.getElem?_eq_some_iff.mp hk).2
  have hix := (ix_nat hl).2
  rw [hd] at hix
  have hl2 : (k : Int) < ds.length := by omega
  have h0 : (0 : Int) ≤ k := by omega
  simp only [F_order_number, B_order_number, mkF, s0, av1, List.length_cons, List.length_nil, List.map_cons, List.map_nil, List.replicate, List.cons_append, List.nil_append, fSeq, fSetI, fSetO, fI, fCallF, faCons, faNil, fName, g0, gs, z0, zs, R.bind, R.stm, toAVs, slotsOf, toImm, setD, fIfS, fOr, fAnd, fNot, fTr, asB, Bool.not_true, Bool.not_false, fChain, fImm, fcLink, fcLast, view, hLe, hLt, hGe, hGt, hCmp, fCall, views, hLen, oR, poR, fNx, fRet, f1, f2, outA, Option.map, if_true, fSub, fPar, setM, setC, Option.map_some, hAdd, hSub, hInt, fDrop, fAndV, fOrV, fNotV, fLst, fTup, allImm, fTgt, fRetN, fBk, fCt, fRaise0, hm, isint_int, decide_eq_true h0, decide_eq_true hl2, hix]
theorem chain_int {ds : List D} (i : Int) : (decide (0 ≤ i) && decide (i < (ds.length : Int))) = decide (0 ≤ i ∧ i < ds.length) := by
  rw [Bool.decide_and]
/-- a wrong number is refused -/
theorem refusal_int {m i : Int} {ds : List D} (hm : F_orders [.imm (.int m)] = .ret (.tmp ds) [.imm (.int m)]) (hi : ¬(0 ≤ i ∧ i < ds.length)) : ∃ as, F__law_refusal [.imm (.int 1), .imm (.int m), .imm (.int i)] = .ret (.imm (.str "number")) as := by
  have hn : F_order_number [.imm (.int m), .imm (.int i)] = .exc ⟨2, none⟩ [.imm (.int m), .imm (.int i)] := by
    by_cases h0 : 0 ≤ i
    · have h1 : ¬ i < ds.length := fun z => hi ⟨h0, z⟩
      simp only [F_order_number, B_order_number, mkF, s0, av1, List.length_cons, List.length_nil, List.map_cons, List.map_nil, List.replicate, List.cons_append, List.nil_append, fSeq, fSetI, fSetO, fI, fCallF, faCons, faNil, fName, g0, gs, z0, zs, R.bind, R.stm, toAVs, slotsOf, toImm, setD, fIfS, fOr, fAnd, fNot, fTr, asB, Bool.not_true, Bool.not_false, fChain, fImm, fcLink, fcLast, view, hLe, hLt, hGe, hGt, hCmp, fCall, views, hLen, oR, poR, fNx, fRet, f1, f2, outA, Option.map, if_true, fSub, fPar, setM, setC, Option.map_some, hAdd, hSub, hInt, fDrop, fAndV, fOrV, fNotV, fLst, fTup, allImm, fTgt, fRetN, fBk, fCt, fRaise0, hm, isint_int, decide_eq_true h0, decide_eq_false h1]
    · simp only [F_order_number, B_order_number, mkF, s0, av1, List.length_cons, List.length_nil, List.map_cons, List.map_nil, List.replicate, List.cons_append, List.nil_append, fSeq, fSetI, fSetO, fI, fCallF, faCons, faNil, fName, g0, gs, z0, zs, R.bind, R.stm, toAVs, slotsOf, toImm, setD, fIfS, fOr, fAnd, fNot, fTr, asB, Bool.not_true, Bool.not_false, fChain, fImm, fcLink, fcLast, view, hLe, hLt, hGe, hGt, hCmp, fCall, views, hLen, oR, poR, fNx, fRet, f1, f2, outA, Option.map, if_true, fSub, fPar, setM, setC, Option.map_some, hAdd, hSub, hInt, fDrop, fAndV, fOrV, fNotV, fLst, fTup, allImm, fTgt, fRetN, fBk, fCt, fRaise0, hm, isint_int, decide_eq_false h0]
  refine ⟨[.imm (.int 1), .imm (.int m), .imm (.int i)], ?_⟩
  simp only [F__law_refusal, B__law_refusal, mkF, s0, av1, List.length_cons, List.length_nil, List.map_cons, List.map_nil, List.replicate, List.cons_append, List.nil_append, fSeq, fSetI, fSetO, fI, fCallF, faCons, faNil, fName, g0, gs, z0, zs, R.bind, R.stm, toAVs, slotsOf, toImm, setD, fIfS, fOr, fAnd, fNot, fTr, asB, Bool.not_true, Bool.not_false, fChain, fImm, fcLink, fcLast, view, hLe, hLt, hGe, hGt, hCmp, fCall, views, hLen, oR, poR, fNx, fRet, f1, f2, outA, Option.map, if_true, fSub, fPar, setM, setC, Option.map_some, hAdd, hSub, hInt, fDrop, fAndV, fOrV, fNotV, fLst, fTup, allImm, fTgt, fRetN, fBk, fCt, fRaise0, hEq_int, hn, fTry]
  rfl
def wrongD : D → Bool
  | .bool _ => true
  | .none => true
  | .str _ => true
  | .tuple _ => true
  | _ => false
theorem refusal_oth {m : Int} {d : D} {ds : List D} (hm : F_orders [.imm (.int m)] = .ret (.tmp ds) [.imm (.int m)]) (hd : wrongD d = true) : ∃ as, F__law_refusal [.imm (.int 1), .imm (.int m), .imm d] = .ret (.imm (.str "number")) as := by
  have hz : F_is_integer [.imm d] = .ret (.imm (.bool false)) [.imm d] := by
    cases d <;> first | rfl | cases hd
  have hn : F_order_number [.imm (.int m), .imm d] = .exc ⟨2, none⟩ [.imm (.int m), .imm d] := by
    simp only [F_order_number, B_order_number, mkF, s0, av1, List.length_cons, List.length_nil, List.map_cons, List.map_nil, List.replicate, List.cons_append, List.nil_append, fSeq, fSetI, fSetO, fI, fCallF, faCons, faNil, fName, g0, gs, z0, zs, R.bind, R.stm, toAVs, slotsOf, toImm, setD, fIfS, fOr, fAnd, fNot, fTr, asB, Bool.not_true, Bool.not_false, fChain, fImm, fcLink, fcLast, view, hLe, hLt, hGe, hGt, hCmp, fCall, views, hLen, oR, poR, fNx, fRet, f1, f2, outA, Option.map, if_true, fSub, fPar, setM, setC, Option.map_some, hAdd, hSub, hInt, fDrop, fAndV, fOrV, fNotV, fLst, fTup, allImm, fTgt, fRetN, fBk, fCt, fRaise0, hm, hz]
  refine ⟨[.imm (.int 1), .imm (.int m), .imm d], ?_⟩
  simp only [F__law_refusal, B__law_refusal, mkF, s0, av1, List.length_cons, List.length_nil, List.map_cons, List.map_nil, List.replicate, List.cons_append, List.nil_append, fSeq, fSetI, fSetO, fI, fCallF, faCons, faNil, fName, g0, gs, z0, zs, R.bind, R.stm, toAVs, slotsOf, toImm, setD, fIfS, fOr, fAnd, fNot, fTr, asB, Bool.not_true, Bool.not_false, fChain, fImm, fcLink, fcLast, view, hLe, hLt, hGe, hGt, hCmp, fCall, views, hLen, oR, poR, fNx, fRet, f1, f2, outA, Option.map, if_true, fSub, fPar, setM, setC, Option.map_some, hAdd, hSub, hInt, fDrop, fAndV, fOrV, fNotV, fLst, fTup, allImm, fTgt, fRetN, fBk, fCt, fRaise0, hEq_int, hn, fTry]
  rfl
end DLP
end

set_option Elab.async false
set_option linter.all false
set_option maxRecDepth 100000
set_option maxHeartbeats 4000000
noncomputable section
namespace DLP
open PySem PySem.Spec PyProof.Rows DL
theorem setD_opt {s : SD} {i : Nat} {v : DV} {o : Option D} (h : getS s i = some (o.map DV.imm)) : setD s i v = some (setS s i (some v)) := by
  unfold setD
  rw [h]
  cases o <;> rfl
theorem many_exc {e : Int} (h1 : 8 ≤ e) (h2 : e ≤ 24) : F_orders [.imm (.int e)] = .exc ⟨4, some (.int 7)⟩ [.imm (.int e)] := by
  have d1 : (1 : Int) ≤ e := by omega
  have d3 : (7 : Int) < e := by omega
  have hn : F_need_count [.imm (.int e), .imm (.int 24)] = .ret (.imm .none) [.imm (.int e), .imm (.int 24)] := by
    simp only [F_need_count, B_need_count, mkF, s0, av1, List.length_cons, List.length_nil, List.map_cons, List.map_nil, List.replicate, List.cons_append, List.nil_append, fSeq, fSetI, fSetO, fI, fCallF, faCons, faNil, fName, g0, gs, z0, zs, R.bind, R.stm, toAVs, slotsOf, toImm, setD, fIfS, fOr, fAnd, fNot, fTr, asB, Bool.not_true, Bool.not_false, fChain, fImm, fcLink, fcLast, view, hLe, hLt, hGe, hGt, hCmp, fCall, views, hLen, oR, poR, fNx, fRet, f1, f2, outA, Option.map, if_true, fSub, fPar, setM, setC, Option.map_some, hAdd, hSub, hInt, fDrop, fAndV, fOrV, fNotV, fLst, fTup, allImm, fTgt, fRetN, fBk, fCt, fRaise0, isint_int, decide_eq_true d1, decide_eq_true h2]
  simp only [F_orders, B_orders, mkF, s0, av1, List.length_cons, List.length_nil, List.map_cons, List.map_nil, List.replicate, List.cons_append, List.nil_append, fSeq, fSetI, fSetO, fI, fCallF, faCons, faNil, fName, g0, gs, z0, zs, R.bind, R.stm, toAVs, slotsOf, toImm, setD, fIfS, fOr, fAnd, fNot, fTr, asB, Bool.not_true, Bool.not_false, fChain, fImm, fcLink, fcLast, view, hLe, hLt, hGe, hGt, hCmp, fCall, views, hLen, oR, poR, fNx, fRet, f1, f2, outA, Option.map, if_true, fSub, fPar, setM, setC, Option.map_some, hAdd, hSub, hInt, fDrop, fAndV, fOrV, fNotV, fLst, fTup, allImm, fTgt, fRetN, fBk, fCt, fRaise0, hn, decide_eq_true d3, fRaise1]
theorem ref8 {e : Int} (h1 : 8 ≤ e) (h2 : e ≤ 24) : (∃ as, F__law_refusal [.imm (.int 0), .imm (.int e), .imm (.int 0)] = .ret (.tmp [.str "many", .int 7]) as) ∧ ∃ as, F__law_refusal [.imm (.int 1), .imm (.int e), .imm .none] = .ret (.tmp [.str "many", .int 7]) as := by
  have q := many_exc h1 h2
  have q2 : F_order_number [.imm (.int e), .imm .none] = .exc ⟨4, some (.int 7)⟩ [.imm (.int e), .imm .none] := by
    simp only [F_order_number, B_order_number, mkF, s0, av1, List.length_cons, List.length_nil, List.map_cons, List.map_nil, List.replicate, List.cons_append, List.nil_append, fSeq, fSetI, fSetO, fI, fCallF, faCons, faNil, fName, g0, gs, z0, zs, R.bind, R.stm, toAVs, slotsOf, toImm, setD, fIfS, fOr, fAnd, fNot, fTr, asB, Bool.not_true, Bool.not_false, fChain, fImm, fcLink, fcLast, view, hLe, hLt, hGe, hGt, hCmp, fCall, views, hLen, oR, poR, fNx, fRet, f1, f2, outA, Option.map, if_true, fSub, fPar, setM, setC, Option.map_some, hAdd, hSub, hInt, fDrop, fAndV, fOrV, fNotV, fLst, fTup, allImm, fTgt, fRetN, fBk, fCt, fRaise0, q]
  refine ⟨⟨[.imm (.int 0), .imm (.int e), .imm (.int 0)], ?_⟩, ⟨[.imm (.int 1), .imm (.int e), .imm .none], ?_⟩⟩
  · simp only [F__law_refusal, B__law_refusal, mkF, s0, av1, List.length_cons, List.length_nil, List.map_cons, List.map_nil, List.replicate, List.cons_append, List.nil_append, fSeq, fSetI, fSetO, fI, fCallF, faCons, faNil, fName, g0, gs, z0, zs, R.bind, R.stm, toAVs, slotsOf, toImm, setD, fIfS, fOr, fAnd, fNot, fTr, asB, Bool.not_true, Bool.not_false, fChain, fImm, fcLink, fcLast, view, hLe, hLt, hGe, hGt, hCmp, fCall, views, hLen, oR, poR, fNx, fRet, f1, f2, outA, Option.map, if_true, fSub, fPar, setM, setC, Option.map_some, hAdd, hSub, hInt, fDrop, fAndV, fOrV, fNotV, fLst, fTup, allImm, fTgt, fRetN, fBk, fCt, fRaise0, hEq_int, q, fTry]
    rfl
  · simp only [F__law_refusal, B__law_refusal, mkF, s0, av1, List.length_cons, List.length_nil, List.map_cons, List.map_nil, List.replicate, List.cons_append, List.nil_append, fSeq, fSetI, fSetO, fI, fCallF, faCons, faNil, fName, g0, gs, z0, zs, R.bind, R.stm, toAVs, slotsOf, toImm, setD, fIfS, fOr, fAnd, fNot, fTr, asB, Bool.not_true, Bool.not_false, fChain, fImm, fcLink, fcLast, view, hLe, hLt, hGe, hGt, hCmp, fCall, views, hLen, oR, poR, fNx, fRet, f1, f2, outA, Option.map, if_true, fSub, fPar, setM, setC, Option.map_some, hAdd, hSub, hInt, fDrop, fAndV, fOrV, fNotV, fLst, fTup, allImm, fTgt, fRetN, fBk, fCt, fRaise0, hEq_int, q2, fTry]
    rfl
def W7 : List D := [.int 0, .int 25, .int (-2), .bool true, .none, .str "4", .tuple [.int 3]]
def isCnt : RF → Bool
  | .ret (.imm (.str x)) _ => x == "count"
  | _ => false
theorem isCnt_ok {r : RF} (h : isCnt r = true) : ∃ as, r = .ret (.imm (.str "count")) as := by
  unfold isCnt at h
  split at h
  · rw [beq_iff_eq] at h
    subst h
    exact ⟨_, rfl⟩
  · cases h
theorem cnt7 : (W7.all fun d => isCnt (F__law_refusal [.imm (.int 0), .imm d, .imm (.int 0)]) && isCnt (F__law_refusal [.imm (.int 1), .imm d, .imm .none])) = true := by kernel_rfl
theorem cnt_ok {d : D} (h : d ∈ W7) : (∃ as, F__law_refusal [.imm (.int 0), .imm d, .imm (.int 0)] = .ret (.imm (.str "count")) as) ∧ ∃ as, F__law_refusal [.imm (.int 1), .imm d, .imm .none] = .ret (.imm (.str "count")) as := by
  have q := List.all_eq_true.mp cnt7 d h
  rw [Bool.and_eq_true] at q
  exact ⟨isCnt_ok q.1, isCnt_ok q.2⟩
theorem ne_num : hNe (.str "number") (.str "number") = some (.val (.bool false)) := by kernel_rfl
theorem ne_cnt : hNe (.str "count") (.str "count") = some (.val (.bool false)) := by kernel_rfl
theorem eq_many : hEq (.list [.str "many", .int 7]) (.list [.str "many", .int 7]) = some (.val (.bool true)) := by kernel_rfl
/-- the slots: script, due, one, wrong, hand, other, many, turn, eight -/
def S9 (sc : D) (ds : List D) (m : Int) (xs : List D) (o2 o3 o5 o7 : Option D) : SD := [some (.imm sc), some (.imm (.list ds)), o2.map .imm, o3.map .imm, some (.own xs), o5.map .imm, some (.imm (.int m)), o7.map .imm, none]
theorem all_get {p : D → Bool} {ds : List D} {k : Nat} {d : D} (h : ds.all p = true) (e : ds[k]? = some d) : p d = true := List.all_eq_true.mp h d (List.mem_of_getElem? e)
def LawEnd (sc : D) (r : RS) : Prop := ∃ s, r = .rt (.imm (.bool true)) (some (.imm sc) :: s)
theorem law_ok (ns : List Int) (T : ∀ m : Int, 1 ≤ m → m ≤ 6 → ∃ ds cs, Tab m ds cs) : ∃ as', F_law [.imm (.list (ns.map .int))] = .ret (.imm (.bool true)) as' := by
  obtain ⟨sc, esc⟩ : ∃ sc : D, sc = .list (ns.map .int) := ⟨_, rfl⟩
  obtain ⟨xs0, hH0, hF0⟩ := hand_ok ns
  rw [← esc] at hF0 ⊢
  suffices h : LawEnd sc (B_law [some (.imm sc), none, none, none, none, none, none, none, none]) by
    obtain ⟨s, hs⟩ := h
    exact ⟨_, mkF_imm rfl hs rfl⟩
  refine w_seq (setO_nx (callF_tmp rfl rfl rfl hF0) rfl) ?_
  obtain ⟨d1, xs1, p1, q1, hH1, hF1⟩ := draw_ok hH0 (n := 6) (by omega) (by omega)
  refine w_seq (setI_nx (f2_val (d := .int 1) (d2 := .int d1) rfl (callF_lent rfl rfl rfl hF1 rfl rfl rfl) rfl rfl rfl) rfl) ?_
  obtain ⟨m, em⟩ : ∃ m : Int, m = 1 + d1 := ⟨_, rfl⟩
  rw [← em]
  obtain ⟨ds, cs, t⟩ := T m (by omega) (by omega)
  have hmx : mx = 16000000 := rfl
  have hl1 := t.l1
  have hl2 := t.l2
  refine w_seq (setI_tmp (callF_tmp rfl rfl rfl t.all) rfl) ?_
  have hfit : fitK 12 (.list ds) = true := by
    show (decide (ds.length ≤ mx) && ds.all (fitK 11)) = true
    rw [t.fit, decide_eq_true (by omega)]
    rfl
  refine w_seq (s1 := S9 sc ds m xs1 none none none none) (ifS_f (s1 := S9 sc ds m xs1 none none none none) ((or_f (s1 := S9 sc ds m xs1 none none none none) ?_).trans ?_) rfl) ?_
  · exact not_t (tr_ok (callF_imm (rs := [.imm (.list ds), .imm (.list ds)]) (cons_ok (fI_tmp (callF_tmp (rs := [.imm (.int m)]) rfl rfl rfl t.ord)) rfl) rfl rfl (kept_refl 12 _ hfit)) rfl)
  · exact not_t (tr_ok (callF_imm (rs := [.imm (.int ds.length), .imm (.int ds.length)]) (cons_ok (fI_imm (callF_imm (rs := [.imm (.int m)]) rfl rfl rfl t.weak)) rfl) rfl rfl (kept_refl 12 (.int ds.length) rfl)) rfl)
  refine w_for (fun _ s => ∃ xs o2 o3 o5 o7, Hand xs ∧ s = S9 sc ds m xs o2 o3 o5 o7) rfl ⟨xs1, none, none, none, none, hH1, rfl⟩ ?_ ?_
  · -- a turn
    rintro p d q _ - ⟨xs, o2, o3, o5, o7, hH, rfl⟩
    refine ⟨S9 sc ds m xs o2 o3 o5 (some d), setD_opt (o := o7) rfl, ?_⟩
    obtain ⟨a, xa, pa, qa, hHa, hFa⟩ := draw_ok hH (n := ds.length) (by omega) (by omega)
    obtain ⟨b, xb, pb, qb, hHb, hFb⟩ := draw_ok hHa (n := ds.length) (by omega) (by omega)
    obtain ⟨i, rfl⟩ : ∃ i : Nat, a = i := ⟨a.toNat, by omega⟩
    obtain ⟨j, rfl⟩ : ∃ j : Nat, b = j := ⟨b.toNat, by omega⟩
    have hi : i < ds.length := by omega
    have hj : j < ds.length := by omega
    have gi : ds[i]? = some ds[i] := List.getElem?_eq_getElem hi
    have gj : ds[j]? = some ds[j] := List.getElem?_eq_getElem hj
    refine w_seq (s1 := S9 sc ds m xb (some (.int i)) o3 (some (.int j)) (some d)) (par_nx (r1 := .imm (.int i)) (r2 := .imm (.int j)) (s1 := S9 sc ds m xb o2 o3 o5 (some d)) (s2 := S9 sc ds m xb (some (.int i)) o3 o5 (some d)) ?_ rfl (setD_opt (o := o2) rfl) (setD_opt (o := o5) rfl)) ?_
    · exact cons_ok (s1 := S9 sc ds m xa o2 o3 o5 (some d)) (fI_imm (callF_lent (rs := [.slot 4, .imm (.int ds.length)]) rfl rfl rfl hFa rfl rfl rfl)) (cons_ok (s1 := S9 sc ds m xb o2 o3 o5 (some d)) (fI_imm (callF_lent (rs := [.slot 4, .imm (.int ds.length)]) rfl rfl rfl hFb rfl rfl rfl)) rfl)
    obtain ⟨s, es⟩ : ∃ s, s = S9 sc ds m xb (some (.int i)) o3 (some (.int j)) (some d) := ⟨_, rfl⟩
    refine w_seq (s1 := S9 sc ds m xb (some (.int i)) o3 (some (.int j)) (some d)) (ifS_f (s1 := S9 sc ds m xb (some (.int i)) o3 (some (.int j)) (some d)) ?_ rfl) ?_
    · exact not_t (tr_ok (callF_imm (rs := [.imm ds[i], .imm ds[i]]) (cons_ok (fI_imm (callF_imm (rs := [.imm (.int m), .imm (.int i)]) rfl rfl rfl (number_ok t.ord gi))) (cons_ok (f2_val (d := .list ds) (d2 := .int i) (r1 := .imm (.list ds)) (r2 := .imm (.int i)) rfl rfl rfl rfl (ix_nat hi).2) rfl)) rfl rfl (kept_refl 12 _ (all_get t.fit2 gi))) rfl)
    obtain ⟨c1, ec1, k1⟩ := chks_get t.chk gi
    obtain ⟨c2, ec2, k2⟩ := chks_get t.chk gj
    obtain ⟨fl1, nm1, a1, a2, f1, g1, sh1, ev1, cc1⟩ := chk_ok k1
    obtain ⟨fl2, nm2, b1, b2, f2', g2, sh2, ev2, cc2⟩ := chk_ok k2
    have heq : hEq (.list nm1) (.list nm2) = some (.val (.bool (decide (i = j)))) := by
      have e1 : eqF (.list nm1) (.list nm2) = some (PyData.eqv (.list nm1) (.list nm2)) := by
        simp [eqF, sh1, sh2]
      unfold hEq
      rw [e1]
      by_cases hij : i = j
      · subst hij
        have efl : fl1 = fl2 := by
          rw [f1] at f2'
          cases f2'
          rfl
        subst efl
        have enm : nm1 = nm2 := by
          rw [g1] at g2
          cases g2
          rfl
        subst enm
        rw [ev1, decide_eq_true rfl]
        rfl
      · have hne : PyData.eqv (.list nm1) (.list nm2) = false := code_ne (by
          rw [← cc1, ← cc2]
          intro hc
          rw [hc] at ec1
          exact hij (t.nod _ _ _ ec1 ec2))
        rw [hne, decide_eq_false hij]
        rfl
    have hint : hEq (.int i) (.int j) = some (.val (.bool (decide (i = j)))) := by
      rw [hEq_int]
      by_cases hij : i = j
      · subst hij
        rw [decide_eq_true rfl, beq_self_eq_true]
      · rw [decide_eq_false hij, show ((i : Int) == (j : Int)) = false from beq_eq_false_iff_ne.mpr (by omega)]
    refine w_seq (s1 := S9 sc ds m xb (some (.int i)) o3 (some (.int j)) (some d)) (ifS_f (s1 := S9 sc ds m xb (some (.int i)) o3 (some (.int j)) (some d)) ?_ rfl) ?_
    · refine tr_ok (v := .imm (.bool false)) (f2_val (d := .bool (decide (i = j))) (d2 := .bool (decide (i = j))) (s1 := S9 sc ds m xb (some (.int i)) o3 (some (.int j)) (some d)) (s2 := S9 sc ds m xb (some (.int i)) o3 (some (.int j)) (some d)) (f2_val (d := .list nm1) (d2 := .list nm2) (r1 := .tmp nm1) (r2 := .tmp nm2) (s1 := S9 sc ds m xb (some (.int i)) o3 (some (.int j)) (some d)) ?_ ?_ rfl rfl heq) (f2_val (d := .int i) (d2 := .int j) rfl rfl rfl rfl hint) rfl rfl ?_) rfl
      · exact callF_tmp (cons_ok (fI_imm (callF_imm (cons_ok (f2_val (d := .list ds) (d2 := .int i) (r1 := .imm (.list ds)) (r2 := .imm (.int i)) rfl rfl rfl rfl (ix_nat hi).2) rfl) rfl rfl f1)) rfl) rfl rfl g1
      · exact callF_tmp (cons_ok (fI_imm (callF_imm (cons_ok (f2_val (d := .list ds) (d2 := .int j) (r1 := .imm (.list ds)) (r2 := .imm (.int j)) rfl rfl rfl rfl (ix_nat hj).2) rfl) rfl rfl f2')) rfl) rfl rfl g2
      · show some (PO.val (.bool !((decide (i = j)) == (decide (i = j))))) = _
        rw [beq_self_eq_true]
        rfl
    obtain ⟨k, w, xc, hw, hHc, hFc⟩ := some_ok hHb (ds := [.int ds.length, .int (-1), .bool true, .none, .str "0", .tuple [.int 0]]) (Nat.le_of_ble_eq_true rfl) (Nat.le_of_ble_eq_true rfl)
    refine w_seq (s1 := S9 sc ds m xc (some (.int i)) (some w) (some (.int j)) (some d)) (setI_nx (s1 := S9 sc ds m xc (some (.int i)) o3 (some (.int j)) (some d)) (callF_lent (rs := [.slot 4, .imm (.list [.int ds.length, .int (-1), .bool true, .none, .str "0", .tuple [.int 0]])]) rfl rfl rfl hFc rfl rfl rfl) (setD_opt (o := o3) rfl)) ?_
    have href : ∃ as, F__law_refusal [.imm (.int 1), .imm (.int m), .imm w] = .ret (.imm (.str "number")) as := by
      match k, hw with
      | 0, hw =>
        cases hw
        exact refusal_int t.ord (by omega)
      | 1, hw =>
        cases hw
        exact refusal_int t.ord (by omega)
      | 2, hw =>
        cases hw
        exact refusal_oth t.ord rfl
      | 3, hw =>
        cases hw
        exact refusal_oth t.ord rfl
      | 4, hw =>
        cases hw
        exact refusal_oth t.ord rfl
      | 5, hw =>
        cases hw
        exact refusal_oth t.ord rfl
      | k + 6, hw => simp at hw
    obtain ⟨as, href⟩ := href
    refine w_eq (P := stepsTo _) (ifS_f (s1 := S9 sc ds m xc (some (.int i)) (some w) (some (.int j)) (some d)) (tr_ok (v := .imm (.bool false)) (f2_val (d := .str "number") (d2 := .str "number") (r1 := .imm (.str "number")) (r2 := .imm (.str "number")) (callF_imm (rs := [.imm (.int 1), .imm (.int m), .imm w]) rfl rfl rfl href) rfl rfl rfl ne_num) rfl) rfl) ?_
    exact ⟨xc, some (.int i), some w, some (.int j), some d, hHc, rfl⟩
  · rintro _ ⟨xs, o2, o3, o5, o7, hH, rfl⟩
    refine w_for (ds := W7) (s1 := S9 sc ds m xs o2 o3 o5 o7) (fun _ s => ∃ o3, s = S9 sc ds m xs o2 o3 o5 o7) rfl ⟨o3, rfl⟩ ?_ ?_
    · rintro p d q _ e ⟨o3, rfl⟩
      refine ⟨S9 sc ds m xs o2 (some d) o5 o7, setD_opt (o := o3) rfl, ?_⟩
      have hd : d ∈ W7 := by
        rw [e]
        exact List.mem_append_right _ (List.mem_cons_self ..)
      obtain ⟨⟨as1, r1⟩, as2, r2⟩ := cnt_ok hd
      refine w_eq (P := stepsTo _) (ifS_f (s1 := S9 sc ds m xs o2 (some d) o5 o7) ((or_f (s1 := S9 sc ds m xs o2 (some d) o5 o7) (tr_ok (v := .imm (.bool false)) (f2_val (d := .str "count") (d2 := .str "count") (r1 := .imm (.str "count")) (r2 := .imm (.str "count")) (callF_imm (rs := [.imm (.int 0), .imm d, .imm (.int 0)]) rfl rfl rfl r1) rfl rfl rfl ne_cnt) rfl)).trans (tr_ok (v := .imm (.bool false)) (f2_val (d := .str "count") (d2 := .str "count") (r1 := .imm (.str "count")) (r2 := .imm (.str "count")) (callF_imm (rs := [.imm (.int 1), .imm d, .imm .none]) rfl rfl rfl r2) rfl rfl rfl ne_cnt) rfl)) rfl) ?_
      exact ⟨some d, rfl⟩
    · rintro _ ⟨o3, rfl⟩
      obtain ⟨a, xa, pa, qa, hHa, hFa⟩ := draw_ok hH (n := 17) (by omega) (by omega)
      obtain ⟨⟨as1, r1⟩, as2, r2⟩ := ref8 (e := 8 + a) (by omega) (by omega)
      refine w_seq (s1 := [some (.imm sc), some (.imm (.list ds)), o2.map .imm, o3.map .imm, some (.own xa), o5.map .imm, some (.imm (.int m)), o7.map .imm, some (.imm (.int (8 + a)))]) (setI_nx (s1 := S9 sc ds m xa o2 o3 o5 o7) (f2_val (d := .int 8) (d2 := .int a) rfl (callF_lent (rs := [.slot 4, .imm (.int 17)]) rfl rfl rfl hFa rfl rfl rfl) rfl rfl rfl) rfl) ?_
      refine ⟨_, ret_imm ((andV_t (v := .imm (.bool true)) (f2_val (d := .list [.str "many", .int 7]) (d2 := .list [.str "many", .int 7]) (r2 := .tmp [.str "many", .int 7]) (callF_tmp rfl rfl rfl r1) rfl rfl rfl eq_many) rfl).trans (f2_val (d := .list [.str "many", .int 7]) (d2 := .list [.str "many", .int 7]) (r2 := .tmp [.str "many", .int 7]) (callF_tmp rfl rfl rfl r2) rfl rfl rfl eq_many))⟩
end DLP
end

set_option Elab.async false
set_option linter.all false
set_option maxRecDepth 1000000
set_option maxHeartbeats 4000000
set_option profiler true
set_option profiler.threshold 500
noncomputable section
namespace DLP
open PySem PySem.Spec PyProof.Rows DL
def o1_0 : List D := [.tuple [.int 0]]
def c1_0 : List Nat := [66566]
theorem ck1_0 : chks o1_0 c1_0 = true := by kernel_rfl
def ords1 : List D := o1_0 ++ ([])
def codes1 : List Nat := c1_0 ++ ([])
theorem ord1 : F_orders [.imm (.int 1)] = .ret (.tmp ords1) [.imm (.int 1)] := by kernel_rfl
theorem all1 : F__law_all_orders [.imm (.int 1)] = .ret (.tmp ords1) [.imm (.int 1)] := by kernel_rfl
theorem weak1 : F_weak_count [.imm (.int 1)] = .ret (.imm (.int 1)) [.imm (.int 1)] := by kernel_rfl
theorem chks1 : chks ords1 codes1 = true := chks_app ck1_0 (rfl)
def o2_0 : List D := [.tuple [.int 0, .int 1], .tuple [.int 1, .int 0]]
def c2_0 : List Nat := [20600875747035660169662595204614, 20600879373813191071144140473862]
theorem ck2_0 : chks o2_0 c2_0 = true := by kernel_rfl
def ords2 : List D := o2_0 ++ ([])
def codes2 : List Nat := c2_0 ++ ([])
theorem ord2 : F_orders [.imm (.int 2)] = .ret (.tmp ords2) [.imm (.int 2)] := by kernel_rfl
theorem all2 : F__law_all_orders [.imm (.int 2)] = .ret (.tmp ords2) [.imm (.int 2)] := by kernel_rfl
theorem weak2 : F_weak_count [.imm (.int 2)] = .ret (.imm (.int 2)) [.imm (.int 2)] := by kernel_rfl
theorem chks2 : chks ords2 codes2 = true := chks_app ck2_0 (rfl)
def o3_0 : List D := [.tuple [.int 0, .int 1, .int 2], .tuple [.int 0, .int 2, .int 1], .tuple [.int 1, .int 0, .int 2], .tuple [.int 1, .int 2, .int 0], .tuple [.int 2, .int 0, .int 1], .tuple [.int 2, .int 1, .int 0]]
def c3_0 : List Nat := [6375662232899640717168649382800727657609431042375545128454, 417835473655099738606304468957722198353593196692156915812533766, 417835473655098277104666797772437073730296942960453455075214854, 417835473655098254202151624089003350402562187261242035371640326, 417835473655099738606304123332502171624208584639554570730997254, 6375663355332920488047283901556965811382965157478460163590]
theorem ck3_0 : chks o3_0 c3_0 = true := by kernel_rfl
def ords3 : List D := o3_0 ++ ([])
def codes3 : List Nat := c3_0 ++ ([])
theorem ord3 : F_orders [.imm (.int 3)] = .ret (.tmp ords3) [.imm (.int 3)] := by kernel_rfl
theorem all3 : F__law_all_orders [.imm (.int 3)] = .ret (.tmp ords3) [.imm (.int 3)] := by kernel_rfl
theorem weak3 : F_weak_count [.imm (.int 3)] = .ret (.imm (.int 6)) [.imm (.int 3)] := by kernel_rfl
theorem chks3 : chks ords3 codes3 = true := chks_app ck3_0 (rfl)
def o4_0 : List D := [.tuple [.int 0, .int 1, .int 2, .int 3], .tuple [.int 0, .int 1, .int 3, .int 2], .tuple [.int 0, .int 2, .int 1, .int 3], .tuple [.int 0, .int 2, .int 3, .int 1], .tuple [.int 0, .int 3, .int 1, .int 2], .tuple [.int 0, .int 3, .int 2, .int 1], .tuple [.int 1, .int 0, .int 2, .int 3], .tuple [.int 1, .int 0, .int 3, .int 2], .tuple [.int 1, .int 2, .int 0, .int 3], .tuple [.int 1, .int 2, .int 3, .int 0], .tuple [.int 1, .int 3, .int 2, .int 0], .tuple [.int 2, .int 0, .int 1, .int 3]]
def c4_0 : List Nat := [1973171888766524138296652356632700280116516402783233451651011790873396151765474608646, 129313815667855363636217813793181654675494013166317300622440718143509902748449509155931654, 8474710223608539468488318990057577696077225988007497549641809274966519298335096872598564636166, 8474710223608539004422431230504828780826187197200900044072979681890266741659563440621717161478, 8474710223608569111263163634742983278124012034108813419891220388229596380039066382351764686342, 8474710223608539468488318990057582516891646107892259180243165793337929015283614950303642027526, 129313815667854459010520436635821570912800214031165570455874206345743464929942970237847046, 8474710223608509825713467335365207292155696449031986466101638938244557889236884578693940643334, 8474710223608509361195273628870221666612143626185481923712786405042060884349020161568661702150, 8474710223608509361188192545483107535227616712625906302752610050069516348006062958971726464518, 8474710223608509361195273628870221666685703416554452016760928407630959285307572093537734755846, 8474710223608539468488311979945295761719505188550622678071355569329408869252169423229305619974]
theorem ck4_0 : chks o4_0 c4_0 = true := by kernel_rfl
def o4_1 : List D := [.tuple [.int 2, .int 1, .int 0, .int 3], .tuple [.int 2, .int 1, .int 3, .int 0], .tuple [.int 2, .int 3, .int 0, .int 1], .tuple [.int 2, .int 3, .int 1, .int 0], .tuple [.int 3, .int 0, .int 1, .int 2], .tuple [.int 3, .int 0, .int 2, .int 1], .tuple [.int 3, .int 1, .int 0, .int 2], .tuple [.int 3, .int 1, .int 2, .int 0], .tuple [.int 3, .int 2, .int 0, .int 1], .tuple [.int 3, .int 2, .int 1, .int 0]]
def c4_1 : List Nat := [8474710223608509825713467335365207292155600668060660047302793010932219459120633739258787923462, 8474710223608509361647586477453488055059027575283137519141579000106494442333043634102434399750, 8474710223608539004422431230397862956211710303267802862754748931559065003524354045366447244806, 129313815667854459010520436635821644472589098641706923854236866354786320112226373598578182, 8474710223608569111263156732889672269883791964410129503509624335655166458892667076868777051654, 8474710223608539468488318990057582516891646107892214228943829957898776007549369622110310630918, 8474710223608509825713467335365207292155696449031963815547501633428551271665507005813368423942, 8474710223608509361195273628870221666685703416554452016415308379901088430800853595313863525894, 129313815667854911323369018248676998318375625288340610589684255190500132248378419546818054, 1973172236142798751991583810971399604379106468535182077275311711203243670339167061510]
theorem ck4_1 : chks o4_1 c4_1 = true := by kernel_rfl
def ords4 : List D := o4_0 ++ (o4_1 ++ ([]))
def codes4 : List Nat := c4_0 ++ (c4_1 ++ ([]))
theorem ord4 : F_orders [.imm (.int 4)] = .ret (.tmp ords4) [.imm (.int 4)] := by kernel_rfl
theorem all4 : F__law_all_orders [.imm (.int 4)] = .ret (.tmp ords4) [.imm (.int 4)] := by kernel_rfl
theorem weak4 : F_weak_count [.imm (.int 4)] = .ret (.imm (.int 22)) [.imm (.int 4)] := by kernel_rfl
theorem chks4 : chks ords4 codes4 = true := chks_app ck4_0 (chks_app ck4_1 (rfl))
def o5_0 : List D := [.tuple [.int 0, .int 1, .int 2, .int 3, .int 4], .tuple [.int 0, .int 1, .int 2, .int 4, .int 3], .tuple [.int 0, .int 1, .int 3, .int 2, .int 4], .tuple [.int 0, .int 1, .int 3, .int 4, .int 2], .tuple [.int 0, .int 1, .int 4, .int 2, .int 3], .tuple [.int 0, .int 1, .int 4, .int 3, .int 2], .tuple [.int 0, .int 2, .int 1, .int 3, .int 4], .tuple [.int 0, .int 2, .int 1, .int 4, .int 3], .tuple [.int 0, .int 2, .int 3, .int 1, .int 4], .tuple [.int 0, .int 2, .int 3, .int 4, .int 1], .tuple [.int 0, .int 2, .int 4, .int 3, .int 1], .tuple [.int 0, .int 3, .int 1, .int 2, .int 4]]
def c5_0 : List Nat := [610667121374109722424203508964963692321145798865072955754769279014287397715559886066198658755759706834618156550, 40020687512001963026477894468173532972094143589951938886099592019377226193743862649926856394902819243157701081302534, 2622795776786551474908789195593138292665498190941620911027351586752888588825069938423837877264842667721511407573442889222, 2622795776786551331427335275008406901829015347073702446138887172394258901724973421095537874953473944237817821251970139654, 2622795776786560648903253122406737384915474744425486200559611585145852893514802117558908996199918705553390952604972221958, 2622795776786551474908789195593139784635325991400940192450903345031536875151562563652003196772196610970303876956604990982, 2622795776786542300914323099320055928471834587572151446954657458798399324281120579507219279113358779740664168083632817670, 171887544027482836232721078637039283106064786262030472749962498487256322417848137751589830421384995379367932221838090427565574, 171887544027482826820346660015548341928869378051939785865961516506015295827694601952348569418314110218803810918215542513206790, 171887544027482826820203178563763711640823830299713559358643424577079182493377685409713857599577470245706444666618568906245638, 171887544027482826820346660015548341930361347879740245185351200680625699947938464244187426947558496919091917105872392608417286, 171887544027483437459622266542559228402103704857852098231097094286224975560173960310243392904616257154234957569830121711732230]
theorem ck5_0 : chks o5_0 c5_0 = true := by kernel_rfl
def o5_1 : List D := [.tuple [.int 0, .int 3, .int 2, .int 1, .int 4], .tuple [.int 0, .int 3, .int 2, .int 4, .int 1], .tuple [.int 0, .int 3, .int 4, .int 1, .int 2], .tuple [.int 0, .int 3, .int 4, .int 2, .int 1], .tuple [.int 0, .int 4, .int 1, .int 2, .int 3], .tuple [.int 0, .int 4, .int 1, .int 3, .int 2], .tuple [.int 0, .int 4, .int 2, .int 1, .int 3], .tuple [.int 0, .int 4, .int 2, .int 3, .int 1], .tuple [.int 0, .int 4, .int 3, .int 1, .int 2], .tuple [.int 0, .int 4, .int 3, .int 2, .int 1], .tuple [.int 1, .int 0, .int 2, .int 3, .int 4], .tuple [.int 1, .int 0, .int 2, .int 4, .int 3]]
def c5_1 : List Nat := [11264822085385115155347608609557006457638934517719878513986305770059276325668867614786273790497840901154505667748273264719240234502, 11264822085385114539099465611969077443087868325482058094797309100823287463492318614586718394291901609491793526535609210199324624390, 171887544027483428056421844580781462642418784746994897610960813718383068675760524967214925586063969415547535726645968722331142, 171887544027482836232721078637039283106062813209758097036800151957905410005978801118225994592649836988174466180602355870205446, 171887544027484038686523456643832095661785449323476242508041040781285470223856096099841237139300455867230108285142018816345606, 171887544027483437459622408722392008925860724172451104738698802197111964587436351200242686640489068254239503581764803512108550, 11264822085385115155347608609557006457639061832468398954843175802029333523956491740286341153266279111291161481717165888581361075718, 11264822085385114538498238710778976136748161294646656708007775372789329385325356856467208175417779872229767618507106456026483131910, 171887544027483437459622266542559228403595674685652557550486673148543711123231101803839792689651276053568917662990110883710470, 171887544027482836232721078637039283106062843593137794708043311695861239653285891563102393926316261969691813565309426195629574, 40020687512001543074338638352157189396334389026369762310626825481653263431876190905416298611666172379730192149906950, 2622795776786533126919857003046975056247998784662001480826760793373500758734549214272729637462591763723256792062169056774]
theorem ck5_1 : chks o5_1 c5_1 = true := by kernel_rfl
def o5_2 : List D := [.tuple [.int 1, .int 0, .int 3, .int 2, .int 4], .tuple [.int 1, .int 0, .int 3, .int 4, .int 2], .tuple [.int 1, .int 0, .int 4, .int 2, .int 3], .tuple [.int 1, .int 0, .int 4, .int 3, .int 2], .tuple [.int 1, .int 2, .int 0, .int 3, .int 4], .tuple [.int 1, .int 2, .int 0, .int 4, .int 3], .tuple [.int 1, .int 2, .int 3, .int 0, .int 4], .tuple [.int 1, .int 2, .int 3, .int 4, .int 0], .tuple [.int 1, .int 2, .int 4, .int 3, .int 0], .tuple [.int 1, .int 3, .int 2, .int 0, .int 4], .tuple [.int 1, .int 3, .int 2, .int 4, .int 0], .tuple [.int 1, .int 3, .int 4, .int 2, .int 0]]
def c5_2 : List Nat := [171887544027482235005819748551686557286266905682716251005543092626230548881360584712249036888942289306070855779886549218756102, 171887544027482235005819748551686557286266875299336553334300248825174931772391756865386650905463563011857838713280379713095174, 171887544027482235005819748551686557286268848351608469646547579198039381445924853639713469320416861877125167676011983688566278, 171887544027482235005819748551686557286266905682716251005543408563130761421201248068273154349562468356953637161337466749584902, 2622795776786532983158439261598903337699469090539442291585899645034552061027516275108873433519304790306633238902018016774, 171887544027482225584271475448145729140964376145857867541262868079462969862641804614809826243196922152743730385243600176154118, 171887544027482225584127854014450667182008987456306280516742756169555709911232313467370794310768289792551920339108173422396934, 171887544027482225584127851825097492611149540736045337766698570075074133528543598809479077180137901238532477948380541973038598, 171887544027482225584127854014450667182009010221959177619483342117132061817424438063325494750334862229674880773946839409231366, 11264822085385075135890815414969678504982241353152272314506161402952956897721248740925783456637476433712819531550648160309433730566, 11264822085385075135881412214685502884726188937189868230043371840555948251655273264413184108039266622657288561464222092714754573830, 171887544027482225584271475448145729140964376115751479107795565187212460969606670745490935383508873198463916362848280739448326]
theorem ck5_2 : chks o5_2 c5_2 = true := by kernel_rfl
def o5_3 : List D := [.tuple [.int 1, .int 4, .int 2, .int 0, .int 3], .tuple [.int 1, .int 4, .int 2, .int 3, .int 0], .tuple [.int 1, .int 4, .int 3, .int 2, .int 0], .tuple [.int 2, .int 0, .int 1, .int 3, .int 4], .tuple [.int 2, .int 0, .int 1, .int 4, .int 3], .tuple [.int 2, .int 1, .int 0, .int 3, .int 4], .tuple [.int 2, .int 1, .int 0, .int 4, .int 3], .tuple [.int 2, .int 1, .int 3, .int 0, .int 4], .tuple [.int 2, .int 1, .int 3, .int 4, .int 0], .tuple [.int 2, .int 1, .int 4, .int 3, .int 0], .tuple [.int 2, .int 3, .int 0, .int 1, .int 4], .tuple [.int 2, .int 3, .int 1, .int 0, .int 4]]
def c5_3 : List Nat := [11264822085385075135890815414969678504982241355094941206724802407439528706553719025162685476539993833029375034531670726715443119622, 11264822085385075135881403040691038924440142493906316664470453299086709452246025767347235676812905997488233391273824520945493476870, 171887544027482225584271475448145729140964376116215092689608175709059048430384739686517523171211401945443292073229842515363334, 2622795776786542300914320929795387505285443982925957226906368932334171290878334652223422835043248641923594743334473958918, 171887544027482836232720936455070515547878826692835992141817217901210528368789805539412985488759068312210317871751425576797702, 2622795776786533126919857003046975056247939499112298171442010343901601440991101270135443336601230153948908651573819082246, 171887544027482235005819748551686557286264963013823572963623905834835564578134415474294050374163616381240822751106681947948550, 171887544027482225593445469912106015187407659667780665601139743285686622458275900928566911206402014491098242217744540734195206, 171887544027482225593301988462457339341215453643309156284739607519288679715276925557340671246470237485849963704869183660885510, 171887544027482225593445469912106015187407659667780665601139743290507436975676234771351073148710247806602041849724011167483398, 171887544027482826820346660013378817260446191661335139671741468217488831599661199166421285621870040108665993848790793354348038, 171887544027482235005819748551686557286264932600801552753574636988043372303826231305618353542687975278041337288893312184747526]
theorem ck5_3 : chks o5_3 c5_3 = true := by kernel_rfl
def o5_4 : List D := [.tuple [.int 2, .int 3, .int 1, .int 4, .int 0], .tuple [.int 2, .int 3, .int 4, .int 0, .int 1], .tuple [.int 2, .int 3, .int 4, .int 1, .int 0], .tuple [.int 2, .int 4, .int 3, .int 0, .int 1], .tuple [.int 2, .int 4, .int 3, .int 1, .int 0], .tuple [.int 3, .int 0, .int 1, .int 2, .int 4], .tuple [.int 3, .int 0, .int 2, .int 1, .int 4], .tuple [.int 3, .int 0, .int 2, .int 4, .int 1], .tuple [.int 3, .int 1, .int 0, .int 2, .int 4], .tuple [.int 3, .int 1, .int 2, .int 0, .int 4], .tuple [.int 3, .int 1, .int 2, .int 4, .int 0], .tuple [.int 3, .int 2, .int 0, .int 1, .int 4]]
def c5_4 : List Nat := [171887544027482225602619464376066301233850943248524947476566450493444495915936366064766363115103605660239009142491162914194950, 171887544027482826820203178563763678536504548940057941001615314529955639303921080896121543035310556731453055112525102342080006, 2622795776786533126919857003046975056247939035039336230143183403099311746073928246105245931953492897052553083748377560582, 171887544027482826820346660013378817260446214426988029693398561745069882598786104345319443292087723208046580838563583912969734, 2622795776786533126919857003046975056247939035046410411889261428724123944415733505735671491766879467521113258856622196230, 171887544027483437459622126556343350213492979978882296804240572632613842432852227011949625378995109059043449859838087700809222, 11264822085385115155347608609557006457638934517719818763460781669698484681103777415112729367095003707295427817185962475829682636294, 11264822085385114539099465611969077443087868325482058093885588435477517798092468683400810289671183182410588401446336714001984390662, 171887544027482235005819748551686557286266905682715791597726330122953620815423265183457345219843116149417799536669513925133830, 11264822085385075135890815414969678504982241353152272314046753586190453620793088523551349004961254748392864546213603267744687851014, 11264822085385075135881412214685502884726188937189868230043364830548978608966013872144402482684540340230419630455877954699096622598, 171887544027482836232720936455070515547878826663193217290162525525985792419130945266698843961903974945938715880599756181210630]
theorem ck5_4 : chks o5_4 c5_4 = true := by kernel_rfl
def o5_5 : List D := [.tuple [.int 3, .int 2, .int 1, .int 0, .int 4], .tuple [.int 3, .int 2, .int 1, .int 4, .int 0], .tuple [.int 3, .int 2, .int 4, .int 0, .int 1], .tuple [.int 3, .int 2, .int 4, .int 1, .int 0], .tuple [.int 3, .int 4, .int 0, .int 1, .int 2], .tuple [.int 3, .int 4, .int 0, .int 2, .int 1], .tuple [.int 3, .int 4, .int 1, .int 0, .int 2], .tuple [.int 3, .int 4, .int 1, .int 2, .int 0], .tuple [.int 3, .int 4, .int 2, .int 0, .int 1], .tuple [.int 3, .int 4, .int 2, .int 1, .int 0], .tuple [.int 4, .int 0, .int 1, .int 2, .int 3], .tuple [.int 4, .int 0, .int 1, .int 3, .int 2]]
def c5_5 : List Nat := [171887544027482235005819748551686557286264963013823572963623905834829287476397567291892883681822205029991930182679177996928518, 171887544027482225602619464376066301233850943248989013364326003247180561374845618802479965807136874700451999883381573287282182, 171887544027482826829520654477339103306889498008195925143736133123062965212389571597699399290131743386777901440741917453583878, 2622795776786533126919857003046975056247939035498723260472527817097448103144419008116322084242414624546656855915848140294, 171887544027483428056421844578645442502675916541354044189918533803196703759788733558930955039074137549884462125759280611460614, 171887544027482836232721078637039283106062813209758097022888398641472157054931286299105082351733112942135569618571220369147398, 171887544027482235005819748551686557286266875299336553327290241855532242610281375741736614411144881689025248182026668515657222, 171887544027482225584271475448145729140964376115751479107795458222994784536970266444514653258345203117487522762257092110059014, 2622795776786542300914320929795387505308209635356591853459929123061523734653507551753756432877446358224396248670280222214, 40020687512001543074338638352157212161986381517216463797638170848327965778858149383996641470982543535144955755759110, 171887544027484038686523316657649689409776744514102640201386760509795410938129839317493841980417976615878904882641741770262022, 171887544027483437459622408722392008925860724172450652411938570926582006869415344112008725674585517926450629316973024204162566]
theorem ck5_5 : chks o5_5 c5_5 = true := by kernel_rfl
def o5_6 : List D := [.tuple [.int 4, .int 0, .int 2, .int 1, .int 3], .tuple [.int 4, .int 0, .int 2, .int 3, .int 1], .tuple [.int 4, .int 0, .int 3, .int 1, .int 2], .tuple [.int 4, .int 0, .int 3, .int 2, .int 1], .tuple [.int 4, .int 1, .int 0, .int 2, .int 3], .tuple [.int 4, .int 1, .int 0, .int 3, .int 2], .tuple [.int 4, .int 1, .int 2, .int 0, .int 3], .tuple [.int 4, .int 1, .int 2, .int 3, .int 0], .tuple [.int 4, .int 1, .int 3, .int 2, .int 0], .tuple [.int 4, .int 2, .int 0, .int 1, .int 3], .tuple [.int 4, .int 2, .int 1, .int 0, .int 3], .tuple [.int 4, .int 2, .int 1, .int 3, .int 0]]
def c5_6 : List Nat := [11264822085385115155347608609557006457639061832468339668834085381121120169149428955837661591150417838029360314547193083485011445254, 11264822085385114538498238710778976136748161294646656707103142665721139257558102110025795079110984891436413404011757793111366305286, 171887544027483437459622266542559228403595674685652557529673278797611562941935529040469198384348840991991571720300273701619206, 171887544027482836232721078637039283106062843593137794708043311695861239653281484155412534910588349911523313726459965344187910, 171887544027482235005819748551686557286268848351608017326689094274299987516840980246951064655460602432399870934151499562223110, 171887544027482235005819748551686557286266905682716251005543408563130761421198302162220626236753078124498838534664991336171014, 11264822085385075135890815414969678504982241355094941206272482548954604967159789939827813377204020038350091762213085588201989867014, 11264822085385075135881403040691038924440142493906316664470446397233400050943849955177347965467415531574924231869034019529146369542, 171887544027482225584271475448145729140964376116215092689608175709059048430384739641566564117742883421418733675589287834682886, 171887544027482836232720936455070515547878826692835992134807316243859507762363744500246973437143875817405173188311471675016710, 171887544027482235005819748551686557286264963013823572963623905834835564578132931069878853164272429838468462780192032639288838, 171887544027482225593445469912106015187407659667780665601139743290507436975676234748700859293772352428962924097469988164994566]
theorem ck5_6 : chks o5_6 c5_6 = true := by kernel_rfl
def o5_7 : List D := [.tuple [.int 4, .int 2, .int 3, .int 0, .int 1], .tuple [.int 4, .int 2, .int 3, .int 1, .int 0], .tuple [.int 4, .int 3, .int 0, .int 1, .int 2], .tuple [.int 4, .int 3, .int 0, .int 2, .int 1], .tuple [.int 4, .int 3, .int 1, .int 0, .int 2], .tuple [.int 4, .int 3, .int 1, .int 2, .int 0], .tuple [.int 4, .int 3, .int 2, .int 0, .int 1], .tuple [.int 4, .int 3, .int 2, .int 1, .int 0]]
def c5_7 : List Nat := [171887544027482826820346660013378817260446214426988029693398454782459144210410151799222043908358908278957085978416747091723782, 2622795776786533126919857003046975056247939035046410411889261428724123944415733505390056656333867143119728864753961272838, 2622795776786551474908784890080922702232254070198595990385401400149458212768205403299448761296768761130114990485346321926, 2622795776786542300914323099320057420441632745256605270193140411287178653575912099261566730859336451956534060686657324550, 2622795776786533126919857003046975056247969141887142816127415926021948781323646881553907005809350561554252683373011404294, 2622795776786532983158439261598903337722234742984239085122652721169977086039168277142935814858342887932987802389250967046, 40020687512001683058385023953176689228946069875544220509511075339002210398910520913637810206407556664086626312783366, 610667228881859482945841039309039492217809776568854733240328534672973459423408710093972844848779912874163570182]
theorem ck5_7 : chks o5_7 c5_7 = true := by kernel_rfl
def ords5 : List D := o5_0 ++ (o5_1 ++ (o5_2 ++ (o5_3 ++ (o5_4 ++ (o5_5 ++ (o5_6 ++ (o5_7 ++ ([]))))))))
def codes5 : List Nat := c5_0 ++ (c5_1 ++ (c5_2 ++ (c5_3 ++ (c5_4 ++ (c5_5 ++ (c5_6 ++ (c5_7 ++ ([]))))))))
theorem ord5 : F_orders [.imm (.int 5)] = .ret (.tmp ords5) [.imm (.int 5)] := by kernel_rfl
theorem all5 : F__law_all_orders [.imm (.int 5)] = .ret (.tmp ords5) [.imm (.int 5)] := by kernel_rfl
theorem weak5 : F_weak_count [.imm (.int 5)] = .ret (.imm (.int 92)) [.imm (.int 5)] := by kernel_rfl
theorem chks5 : chks ords5 codes5 = true := chks_app ck5_0 (chks_app ck5_1 (chks_app ck5_2 (chks_app ck5_3 (chks_app ck5_4 (chks_app ck5_5 (chks_app ck5_6 (chks_app ck5_7 (rfl))))))))
end DLP
end

set_option Elab.async false
set_option linter.all false
set_option maxRecDepth 1000000
set_option maxHeartbeats 4000000
noncomputable section
namespace DLP
open PySem PySem.Spec PyProof.Rows DL
/-! ### permutations in parts -/
def eqN : List Nat → List Nat → Bool
  | [], [] => true
  | x :: a, y :: b => Nat.beq x y && eqN a b
  | _, _ => false
theorem eqN_ok : ∀ {a b : List Nat}, eqN a b = true → a = b
  | [], [], _ => rfl
  | [], _ :: _, h => by cases h
  | _ :: _, [], h => by cases h
  | x :: a, y :: b, h => by
    have h' : (Nat.beq x y && eqN a b) = true := h
    rw [Bool.and_eq_true] at h'
    rw [Nat.eq_of_beq_eq_true h'.1, eqN_ok h'.2]
def chainP (n : Nat) : Pm.St2 → List Pm.St2 → Option Pm.St2
  | a, [] => some a
  | a, b :: r => match Pm.np n n a.1 a.2 with
    | some c => if eqN c.1 b.1 && eqN c.2 b.2 && Pm.sizes n b then chainP n b r else none
    | none => none
theorem chainP_cons {n : Nat} {a b z : Pm.St2} {r : List Pm.St2} (h : chainP n a (b :: r) = some z) : Pm.np n n a.1 a.2 = some b ∧ Pm.sizes n b = true ∧ chainP n b r = some z := by
  unfold chainP at h
  split at h
  · rename_i c e
    split at h
    · rename_i hz
      rw [Bool.and_eq_true, Bool.and_eq_true] at hz
      refine ⟨?_, hz.2, h⟩
      rw [e, show c = b from Prod.ext (eqN_ok hz.1.1) (eqN_ok hz.1.2)]
    · cases h
  · cases h
theorem chainP_app {n : Nat} : ∀ {xs ys : List Pm.St2} {a b z : Pm.St2}, chainP n a xs = some b → chainP n b ys = some z → chainP n a (xs ++ ys) = some z
  | [], ys, a, b, z, h, h2 => by
    cases h
    exact h2
  | x :: xs, ys, a, b, z, h, h2 => by
    obtain ⟨h3, h4, h5⟩ := chainP_cons h
    have ih := chainP_app h5 h2
    have e1 : eqN x.1 x.1 = true := by
      generalize x.1 = l
      induction l with
      | nil => rfl
      | cons y l ih =>
        show (Nat.beq y y && eqN l l) = true
        rw [Nat.beq_refl, ih]
        rfl
    have e2 : eqN x.2 x.2 = true := by
      generalize x.2 = l
      induction l with
      | nil => rfl
      | cons y l ih =>
        show (Nat.beq y y && eqN l l) = true
        rw [Nat.beq_refl, ih]
        rfl
    rw [List.cons_append]
    unfold chainP
    rw [h3]
    dsimp only
    rw [e1, e2, h4]
    exact ih
theorem chain_later {n : Nat} : ∀ {r : List Pm.St2} {a z : Pm.St2} {f : Nat}, chainP n a r = some z → Pm.np n n z.1 z.2 = none → r.length < f → Pm.later n f a = some r
  | [], a, z, 0, _, _, hf => by cases hf
  | [], a, z, f + 1, h, hz, _ => by
    cases h
    unfold Pm.later
    rw [hz]
  | b :: r, a, z, 0, _, _, hf => by cases hf
  | b :: r, a, z, f + 1, h, hz, hf => by
    obtain ⟨h3, h4, h5⟩ := chainP_cons h
    unfold Pm.later
    rw [h3]
    dsimp only
    rw [if_pos h4, chain_later h5 hz (Nat.lt_of_succ_lt_succ hf)]
    rfl
theorem permD_of {n : Nat} {r : List Pm.St2} {a z : Pm.St2} (ha : Pm.first n = a) (h : chainP n a r = some z) (hz : Pm.np n n z.1 z.2 = none) (hl : r.length < 1000000) : permD n = some ((a :: r).map fun a => .tuple (a.1.map (Pm.dAt n))) := by
  unfold permD Pm.states
  rw [ha, chain_later h hz hl]
  rfl
section
variable {g : D → SD → Option SD} {cond : FT} {elt : FE} {vs : List Nat}
theorem loopC_two {d1 d2 o1 o2 : List D} {s : SD} (h1 : loopC g cond elt vs d1 s [] = .ok o1 s) (h2 : loopC g cond elt vs d2 s [] = .ok o2 s) (hl : o1.length + o2.length ≤ mx) : loopC g cond elt vs (d1 ++ d2) s [] = .ok (o1 ++ o2) s := by
  have q := loopC_pre o1 d2 s s [] o2 h2 hl
  rw [List.append_nil] at q
  rw [loopC_app, h1]
  exact q
end
end DLP
end

set_option Elab.async false
set_option linter.all false
set_option maxRecDepth 1000000
set_option maxHeartbeats 4000000
noncomputable section
namespace DLP
open PySem PySem.Spec PyProof.Rows DL
def tt6_0 : List Pm.St2 := [([0, 1, 2, 3, 5, 4], [6, 5, 4, 3, 1, 1]), ([0, 1, 2, 4, 3, 5], [6, 5, 4, 2, 2, 1]), ([0, 1, 2, 4, 5, 3], [6, 5, 4, 2, 1, 1]), ([0, 1, 2, 5, 3, 4], [6, 5, 4, 1, 2, 1]), ([0, 1, 2, 5, 4, 3], [6, 5, 4, 1, 1, 1]), ([0, 1, 3, 2, 4, 5], [6, 5, 3, 3, 2, 1]), ([0, 1, 3, 2, 5, 4], [6, 5, 3, 3, 1, 1]), ([0, 1, 3, 4, 2, 5], [6, 5, 3, 2, 2, 1]), ([0, 1, 3, 4, 5, 2], [6, 5, 3, 2, 1, 1]), ([0, 1, 3, 5, 2, 4], [6, 5, 3, 1, 2, 1]), ([0, 1, 3, 5, 4, 2], [6, 5, 3, 1, 1, 1]), ([0, 1, 4, 2, 3, 5], [6, 5, 2, 3, 2, 1]), ([0, 1, 4, 2, 5, 3], [6, 5, 2, 3, 1, 1]), ([0, 1, 4, 3, 2, 5], [6, 5, 2, 2, 2, 1]), ([0, 1, 4, 3, 5, 2], [6, 5, 2, 2, 1, 1]), ([0, 1, 4, 5, 2, 3], [6, 5, 2, 1, 2, 1]), ([0, 1, 4, 5, 3, 2], [6, 5, 2, 1, 1, 1]), ([0, 1, 5, 2, 3, 4], [6, 5, 1, 3, 2, 1]), ([0, 1, 5, 2, 4, 3], [6, 5, 1, 3, 1, 1])]
def ss6_0 : List Pm.St2 := ([0, 1, 2, 3, 4, 5], [6, 5, 4, 3, 2, 1]) :: tt6_0
def p6_0 : List D := [.tuple [.int 0, .int 1, .int 2, .int 3, .int 4, .int 5], .tuple [.int 0, .int 1, .int 2, .int 3, .int 5, .int 4], .tuple [.int 0, .int 1, .int 2, .int 4, .int 3, .int 5], .tuple [.int 0, .int 1, .int 2, .int 4, .int 5, .int 3], .tuple [.int 0, .int 1, .int 2, .int 5, .int 3, .int 4], .tuple [.int 0, .int 1, .int 2, .int 5, .int 4, .int 3], .tuple [.int 0, .int 1, .int 3, .int 2, .int 4, .int 5], .tuple [.int 0, .int 1, .int 3, .int 2, .int 5, .int 4], .tuple [.int 0, .int 1, .int 3, .int 4, .int 2, .int 5], .tuple [.int 0, .int 1, .int 3, .int 4, .int 5, .int 2], .tuple [.int 0, .int 1, .int 3, .int 5, .int 2, .int 4], .tuple [.int 0, .int 1, .int 3, .int 5, .int 4, .int 2], .tuple [.int 0, .int 1, .int 4, .int 2, .int 3, .int 5], .tuple [.int 0, .int 1, .int 4, .int 2, .int 5, .int 3], .tuple [.int 0, .int 1, .int 4, .int 3, .int 2, .int 5], .tuple [.int 0, .int 1, .int 4, .int 3, .int 5, .int 2], .tuple [.int 0, .int 1, .int 4, .int 5, .int 2, .int 3], .tuple [.int 0, .int 1, .int 4, .int 5, .int 3, .int 2], .tuple [.int 0, .int 1, .int 5, .int 2, .int 3, .int 4], .tuple [.int 0, .int 1, .int 5, .int 2, .int 4, .int 3]]
def f6_0 : List D := [.tuple [.int 0, .int 1, .int 2, .int 3, .int 4, .int 5], .tuple [.int 0, .int 1, .int 2, .int 3, .int 5, .int 4], .tuple [.int 0, .int 1, .int 2, .int 4, .int 3, .int 5], .tuple [.int 0, .int 1, .int 2, .int 4, .int 5, .int 3], .tuple [.int 0, .int 1, .int 2, .int 5, .int 3, .int 4], .tuple [.int 0, .int 1, .int 2, .int 5, .int 4, .int 3], .tuple [.int 0, .int 1, .int 3, .int 2, .int 4, .int 5], .tuple [.int 0, .int 1, .int 3, .int 2, .int 5, .int 4], .tuple [.int 0, .int 1, .int 3, .int 4, .int 2, .int 5], .tuple [.int 0, .int 1, .int 3, .int 4, .int 5, .int 2], .tuple [.int 0, .int 1, .int 3, .int 5, .int 4, .int 2], .tuple [.int 0, .int 1, .int 4, .int 2, .int 3, .int 5], .tuple [.int 0, .int 1, .int 4, .int 3, .int 2, .int 5], .tuple [.int 0, .int 1, .int 4, .int 3, .int 5, .int 2], .tuple [.int 0, .int 1, .int 4, .int 5, .int 2, .int 3], .tuple [.int 0, .int 1, .int 4, .int 5, .int 3, .int 2], .tuple [.int 0, .int 1, .int 5, .int 2, .int 3, .int 4], .tuple [.int 0, .int 1, .int 5, .int 2, .int 4, .int 3]]
def c6_0 : List Nat := [188992320056038868584424489287829340597830851125643719426348185009413389595870441507799904983703893403106563291659423165731915566120568326, 12385802867708952793189398427340270724001076944964978034882470342236840217906020364853755456362711496110687759396597278682044895648940460213766, 811715976738171091040692974563786983623411064232204448811452563107977621668379116610041250221757431363972008043302947459900171905389901214900422150, 811715976738171046678656101695507328252217917214599859050627602399437480356868029840149689143769396572358897481512479246915354523116319130658407942, 811715976738173930254459743929069408326721747593953244123958815178054718377884973729353029764095807478427887573289797109630199030896316965955438086, 811715976738171091040692974563787445365717048202333927097793715814075483975656477640746339240817144272022813546586294272078852357893409588812056070, 811715976738168251826925533793401985078687549799184097128847549867121682816069174433716222398317651771128014652306893232792573005578947207050429958, 53196618251512594551729391782684422754860632229105734478409806811838516109203645636262747955159886399201921482738334142014655483485526732776780501222918, 53196618251512591641579772837912017252443989369900788810201911992412861795237860650004116672829876229077537160182972492389006362352249899465192616887814, 53196618251512591641535410801700194854665280498719008170210656570515423837647577119155802242021479724732453509185683898806440569451634762169207545529862, 53196618251512591641579772837912017252905731675884758939680198333565567893100167927473302688479352299340792894655824773248409213260300902448762089506310, 53196618251512780622442810779146485510682787609482982731003791723927854532023811136532977231750282626496969063030281842207860764331323670799783534396934, 3486293573731129396542137419870006329662506991760467846303388859894502404835383832331081798282733693640197930192729944307848210635679863389007950745440749062, 3486293573731129206008642706125077326667056925328885821335328313598686684936363674741431522846079970182871027483392426755212157904042768513671816116387055110, 53196618251512777715132406280045353074849925732758266747751294815323229833412307160472799681563003809075021209064586904316064947506931851131069135193606, 53196618251512594551729391782684422754860021608177694735666011531783872366515031360420870431454504845036429506457543161691314336926306907976616464745990, 53196618251512966693156230454500117003794014124764621299668528618418520497636939795606529705368830542478562322946748162612440140032996477432787162760710, 53196618251512780622442854781012374019487632470987874086673914172647526658778161009352409722196150163833630323406566001373954111897151666907672316610054]
theorem sp6_0 : ss6_0.map (fun a => PyData.tuple (a.1.map (Pm.dAt 6))) = p6_0 := by kernel_rfl
theorem ch6_0 : chainP 6 ([0, 1, 2, 3, 4, 5], [6, 5, 4, 3, 2, 1]) tt6_0 = some ([0, 1, 5, 2, 4, 3], [6, 5, 1, 3, 1, 1]) := by kernel_rfl
def ss6_1 : List Pm.St2 := [([0, 1, 5, 3, 2, 4], [6, 5, 1, 2, 2, 1]), ([0, 1, 5, 3, 4, 2], [6, 5, 1, 2, 1, 1]), ([0, 1, 5, 4, 2, 3], [6, 5, 1, 1, 2, 1]), ([0, 1, 5, 4, 3, 2], [6, 5, 1, 1, 1, 1]), ([0, 2, 1, 3, 4, 5], [6, 4, 4, 3, 2, 1]), ([0, 2, 1, 3, 5, 4], [6, 4, 4, 3, 1, 1]), ([0, 2, 1, 4, 3, 5], [6, 4, 4, 2, 2, 1]), ([0, 2, 1, 4, 5, 3], [6, 4, 4, 2, 1, 1]), ([0, 2, 1, 5, 3, 4], [6, 4, 4, 1, 2, 1]), ([0, 2, 1, 5, 4, 3], [6, 4, 4, 1, 1, 1]), ([0, 2, 3, 1, 4, 5], [6, 4, 3, 3, 2, 1]), ([0, 2, 3, 1, 5, 4], [6, 4, 3, 3, 1, 1]), ([0, 2, 3, 4, 1, 5], [6, 4, 3, 2, 2, 1]), ([0, 2, 3, 4, 5, 1], [6, 4, 3, 2, 1, 1]), ([0, 2, 3, 5, 1, 4], [6, 4, 3, 1, 2, 1]), ([0, 2, 3, 5, 4, 1], [6, 4, 3, 1, 1, 1]), ([0, 2, 4, 1, 3, 5], [6, 4, 2, 3, 2, 1]), ([0, 2, 4, 1, 5, 3], [6, 4, 2, 3, 1, 1]), ([0, 2, 4, 3, 1, 5], [6, 4, 2, 2, 2, 1]), ([0, 2, 4, 3, 5, 1], [6, 4, 2, 2, 1, 1])]
def p6_1 : List D := [.tuple [.int 0, .int 1, .int 5, .int 3, .int 2, .int 4], .tuple [.int 0, .int 1, .int 5, .int 3, .int 4, .int 2], .tuple [.int 0, .int 1, .int 5, .int 4, .int 2, .int 3], .tuple [.int 0, .int 1, .int 5, .int 4, .int 3, .int 2], .tuple [.int 0, .int 2, .int 1, .int 3, .int 4, .int 5], .tuple [.int 0, .int 2, .int 1, .int 3, .int 5, .int 4], .tuple [.int 0, .int 2, .int 1, .int 4, .int 3, .int 5], .tuple [.int 0, .int 2, .int 1, .int 4, .int 5, .int 3], .tuple [.int 0, .int 2, .int 1, .int 5, .int 3, .int 4], .tuple [.int 0, .int 2, .int 1, .int 5, .int 4, .int 3], .tuple [.int 0, .int 2, .int 3, .int 1, .int 4, .int 5], .tuple [.int 0, .int 2, .int 3, .int 1, .int 5, .int 4], .tuple [.int 0, .int 2, .int 3, .int 4, .int 1, .int 5], .tuple [.int 0, .int 2, .int 3, .int 4, .int 5, .int 1], .tuple [.int 0, .int 2, .int 3, .int 5, .int 1, .int 4], .tuple [.int 0, .int 2, .int 3, .int 5, .int 4, .int 1], .tuple [.int 0, .int 2, .int 4, .int 1, .int 3, .int 5], .tuple [.int 0, .int 2, .int 4, .int 1, .int 5, .int 3], .tuple [.int 0, .int 2, .int 4, .int 3, .int 1, .int 5], .tuple [.int 0, .int 2, .int 4, .int 3, .int 5, .int 1]]
def f6_1 : List D := [.tuple [.int 0, .int 1, .int 5, .int 3, .int 2, .int 4], .tuple [.int 0, .int 1, .int 5, .int 3, .int 4, .int 2], .tuple [.int 0, .int 1, .int 5, .int 4, .int 2, .int 3], .tuple [.int 0, .int 1, .int 5, .int 4, .int 3, .int 2], .tuple [.int 0, .int 2, .int 1, .int 3, .int 4, .int 5], .tuple [.int 0, .int 2, .int 1, .int 3, .int 5, .int 4], .tuple [.int 0, .int 2, .int 1, .int 4, .int 3, .int 5], .tuple [.int 0, .int 2, .int 1, .int 4, .int 5, .int 3], .tuple [.int 0, .int 2, .int 1, .int 5, .int 3, .int 4], .tuple [.int 0, .int 2, .int 1, .int 5, .int 4, .int 3], .tuple [.int 0, .int 2, .int 3, .int 1, .int 4, .int 5], .tuple [.int 0, .int 2, .int 3, .int 1, .int 5, .int 4], .tuple [.int 0, .int 2, .int 3, .int 4, .int 1, .int 5], .tuple [.int 0, .int 2, .int 3, .int 4, .int 5, .int 1], .tuple [.int 0, .int 2, .int 3, .int 5, .int 4, .int 1], .tuple [.int 0, .int 2, .int 4, .int 3, .int 1, .int 5], .tuple [.int 0, .int 2, .int 4, .int 3, .int 5, .int 1]]
def c6_1 : List Nat := [3486293573731129396542137419870006329662546393766664097159518495549551521975220257077237395732130782355142662530781113166181411216346723902655794469258266118, 3486293573731129205822571992705401962686430031110783561728705917279878876877793697368508820832419385824560621441531045816884893248091623138460638192161129990, 53196618251512780622442810779146485511144529915466952860482078065080560629886118414002057935108090139573504021561081305406191734417694073479169715865094, 53196618251512594551729391782684422754860031002204404393057178769779155598576728403056235581274099102877131268841240919893980012098735236113122470528518, 811715976738165412613158093023016986533964035366163711941202609971279669389939629477888361015084793741115463119172368916116700499507196772156311046, 53196618251512408481015928784356471490233631987223312710538604664085781300578661258893364584938650222324957068535178337926043891896172594415066549716486, 3486293573731117202211859908811585715583911903908461453324181755939379176417336856175801889731914759552389190366392053523831403941898951850343071378710070790, 3486293573731117202211859908811585715583911288261527009217400627791864630993882584050001882334892746687745291814206573777899373625357814162949144165780686342, 3486293573731117202211859908811585715583951305914657704180311391594428293557173745890697113471221099518580510209786137959201633832822169427294198811463124486, 3486293573731117202211859908811585715583911903908461453324188163901123512890277961443248140972706570899801087717523487587259828537935994982606065054884693510, 53196618251512405568027139395107266240550625317225561257628388394049533891733444283703150163497623323004270517376152940005590056889690661501936240821766, 3486293573731117011306226607397749800370986524554659848987618821742847261125530443702158230899359016107706235875739223775717165799966975335653394251816240646, 3486293573731117011303316457822127330880153049844114413753878230438142409714294573056280491803505165543276600407616096710928808140040185745916504273756489222, 3486293573731117011303316413460091780103637147797565197210202871192652255865134139470816894323859049332428747918638591236159941499549405530831491591882278406, 3486293573731117011303316457822127330880153511586420397724007742229523489075378509937363760171014561907015148904576698125435095519259385705094779063046112774, 228477735648042484452964866942418930917112972833812181657684113425499911958535865772176554786568685855013217973658352320320151064828373329009430361863093970404870, 228477735648042484452774333450544356431925721162221865287500035841589661513671500178324517927725464226276038071434677716642930024361886917257662230419608548279814]
theorem sp6_1 : ss6_1.map (fun a => PyData.tuple (a.1.map (Pm.dAt 6))) = p6_1 := by kernel_rfl
theorem ch6_1 : chainP 6 ([0, 1, 5, 2, 4, 3], [6, 5, 1, 3, 1, 1]) ss6_1 = some ([0, 2, 4, 3, 5, 1], [6, 4, 2, 2, 1, 1]) := by kernel_rfl
def ss6_2 : List Pm.St2 := [([0, 2, 4, 5, 1, 3], [6, 4, 2, 1, 2, 1]), ([0, 2, 4, 5, 3, 1], [6, 4, 2, 1, 1, 1]), ([0, 2, 5, 1, 3, 4], [6, 4, 1, 3, 2, 1]), ([0, 2, 5, 1, 4, 3], [6, 4, 1, 3, 1, 1]), ([0, 2, 5, 3, 1, 4], [6, 4, 1, 2, 2, 1]), ([0, 2, 5, 3, 4, 1], [6, 4, 1, 2, 1, 1]), ([0, 2, 5, 4, 1, 3], [6, 4, 1, 1, 2, 1]), ([0, 2, 5, 4, 3, 1], [6, 4, 1, 1, 1, 1]), ([0, 3, 1, 2, 4, 5], [6, 3, 4, 3, 2, 1]), ([0, 3, 1, 2, 5, 4], [6, 3, 4, 3, 1, 1]), ([0, 3, 1, 4, 2, 5], [6, 3, 4, 2, 2, 1]), ([0, 3, 1, 4, 5, 2], [6, 3, 4, 2, 1, 1]), ([0, 3, 1, 5, 2, 4], [6, 3, 4, 1, 2, 1]), ([0, 3, 1, 5, 4, 2], [6, 3, 4, 1, 1, 1]), ([0, 3, 2, 1, 4, 5], [6, 3, 3, 3, 2, 1]), ([0, 3, 2, 1, 5, 4], [6, 3, 3, 3, 1, 1]), ([0, 3, 2, 4, 1, 5], [6, 3, 3, 2, 2, 1]), ([0, 3, 2, 4, 5, 1], [6, 3, 3, 2, 1, 1]), ([0, 3, 2, 5, 1, 4], [6, 3, 3, 1, 2, 1]), ([0, 3, 2, 5, 4, 1], [6, 3, 3, 1, 1, 1])]
def p6_2 : List D := [.tuple [.int 0, .int 2, .int 4, .int 5, .int 1, .int 3], .tuple [.int 0, .int 2, .int 4, .int 5, .int 3, .int 1], .tuple [.int 0, .int 2, .int 5, .int 1, .int 3, .int 4], .tuple [.int 0, .int 2, .int 5, .int 1, .int 4, .int 3], .tuple [.int 0, .int 2, .int 5, .int 3, .int 1, .int 4], .tuple [.int 0, .int 2, .int 5, .int 3, .int 4, .int 1], .tuple [.int 0, .int 2, .int 5, .int 4, .int 1, .int 3], .tuple [.int 0, .int 2, .int 5, .int 4, .int 3, .int 1], .tuple [.int 0, .int 3, .int 1, .int 2, .int 4, .int 5], .tuple [.int 0, .int 3, .int 1, .int 2, .int 5, .int 4], .tuple [.int 0, .int 3, .int 1, .int 4, .int 2, .int 5], .tuple [.int 0, .int 3, .int 1, .int 4, .int 5, .int 2], .tuple [.int 0, .int 3, .int 1, .int 5, .int 2, .int 4], .tuple [.int 0, .int 3, .int 1, .int 5, .int 4, .int 2], .tuple [.int 0, .int 3, .int 2, .int 1, .int 4, .int 5], .tuple [.int 0, .int 3, .int 2, .int 1, .int 5, .int 4], .tuple [.int 0, .int 3, .int 2, .int 4, .int 1, .int 5], .tuple [.int 0, .int 3, .int 2, .int 4, .int 5, .int 1], .tuple [.int 0, .int 3, .int 2, .int 5, .int 1, .int 4], .tuple [.int 0, .int 3, .int 2, .int 5, .int 4, .int 1]]
def f6_2 : List D := [.tuple [.int 0, .int 2, .int 4, .int 5, .int 3, .int 1], .tuple [.int 0, .int 2, .int 5, .int 3, .int 1, .int 4], .tuple [.int 0, .int 2, .int 5, .int 3, .int 4, .int 1], .tuple [.int 0, .int 2, .int 5, .int 4, .int 3, .int 1], .tuple [.int 0, .int 3, .int 1, .int 2, .int 4, .int 5], .tuple [.int 0, .int 3, .int 1, .int 2, .int 5, .int 4], .tuple [.int 0, .int 3, .int 2, .int 1, .int 4, .int 5], .tuple [.int 0, .int 3, .int 2, .int 1, .int 5, .int 4], .tuple [.int 0, .int 3, .int 2, .int 4, .int 1, .int 5], .tuple [.int 0, .int 3, .int 2, .int 4, .int 5, .int 1], .tuple [.int 0, .int 3, .int 2, .int 5, .int 4, .int 1]]
def c6_2 : List Nat := [3486293573731117011306226607397749800370986523944038920947876077947567206481787755094977248940449353530889180492534724937656797231896161631040401130951935494, 228477735648042484452964866942418930917112972873214187853934969555135567007653005609066269681792425161353184070696702209623470811403130834848573167012577152468486, 228477735648042484452774147379830936756561740535327647185240429219193342705863441608347152099883369179734484400858295523239824571873407458327364936880352527779334, 3486293573731117011306226607397749800370986523953432947657533469114805201765019816792019992566222025250618977222789740681998021884908954077915289200250717702, 53196618251512594551729347780157478277265538768648645655066346088995681406137366198252442808198933626077771404294769194609747789070992494534758286886406, 3486293573731129396542134536120400496409135092507123108058110681251802063719423011206466744873577445179853042571151448401381680110200737821880809104802711046, 3486293573731117202211859908811585715583872501902255884850505516613232589519950568081680171592400033866433917967701991307938594969695174081452172121085445638, 228477735648042496964156450983876081456504668284666241669563149488945687821870148705072872768541946641245922369043933745567306027314475278230239491193019658798598, 228477735648042484465159197217090775570947336973289731333946101244045629369992550259425069019615255793882477639197710019673008672493144162503029654113623564748294, 228477735648042484464968663725216201085760085341100819942429167251021979251919144141439582579882115236580048543891452027839201539658622848213501738409407807882758, 228477735648042484465159197217090775570947336973289731333946101250453591114329023200530343553932929475798093107168413925855727889160317139208456693530940510963206]
theorem sp6_2 : ss6_2.map (fun a => PyData.tuple (a.1.map (Pm.dAt 6))) = p6_2 := by kernel_rfl
theorem ch6_2 : chainP 6 ([0, 2, 4, 3, 5, 1], [6, 4, 2, 2, 1, 1]) ss6_2 = some ([0, 3, 2, 5, 4, 1], [6, 3, 3, 1, 1, 1]) := by kernel_rfl
def ss6_3 : List Pm.St2 := [([0, 3, 4, 1, 2, 5], [6, 3, 2, 3, 2, 1]), ([0, 3, 4, 1, 5, 2], [6, 3, 2, 3, 1, 1]), ([0, 3, 4, 2, 1, 5], [6, 3, 2, 2, 2, 1]), ([0, 3, 4, 2, 5, 1], [6, 3, 2, 2, 1, 1]), ([0, 3, 4, 5, 1, 2], [6, 3, 2, 1, 2, 1]), ([0, 3, 4, 5, 2, 1], [6, 3, 2, 1, 1, 1]), ([0, 3, 5, 1, 2, 4], [6, 3, 1, 3, 2, 1]), ([0, 3, 5, 1, 4, 2], [6, 3, 1, 3, 1, 1]), ([0, 3, 5, 2, 1, 4], [6, 3, 1, 2, 2, 1]), ([0, 3, 5, 2, 4, 1], [6, 3, 1, 2, 1, 1]), ([0, 3, 5, 4, 1, 2], [6, 3, 1, 1, 2, 1]), ([0, 3, 5, 4, 2, 1], [6, 3, 1, 1, 1, 1]), ([0, 4, 1, 2, 3, 5], [6, 2, 4, 3, 2, 1]), ([0, 4, 1, 2, 5, 3], [6, 2, 4, 3, 1, 1]), ([0, 4, 1, 3, 2, 5], [6, 2, 4, 2, 2, 1]), ([0, 4, 1, 3, 5, 2], [6, 2, 4, 2, 1, 1]), ([0, 4, 1, 5, 2, 3], [6, 2, 4, 1, 2, 1]), ([0, 4, 1, 5, 3, 2], [6, 2, 4, 1, 1, 1]), ([0, 4, 2, 1, 3, 5], [6, 2, 3, 3, 2, 1]), ([0, 4, 2, 1, 5, 3], [6, 2, 3, 3, 1, 1])]
def p6_3 : List D := [.tuple [.int 0, .int 3, .int 4, .int 1, .int 2, .int 5], .tuple [.int 0, .int 3, .int 4, .int 1, .int 5, .int 2], .tuple [.int 0, .int 3, .int 4, .int 2, .int 1, .int 5], .tuple [.int 0, .int 3, .int 4, .int 2, .int 5, .int 1], .tuple [.int 0, .int 3, .int 4, .int 5, .int 1, .int 2], .tuple [.int 0, .int 3, .int 4, .int 5, .int 2, .int 1], .tuple [.int 0, .int 3, .int 5, .int 1, .int 2, .int 4], .tuple [.int 0, .int 3, .int 5, .int 1, .int 4, .int 2], .tuple [.int 0, .int 3, .int 5, .int 2, .int 1, .int 4], .tuple [.int 0, .int 3, .int 5, .int 2, .int 4, .int 1], .tuple [.int 0, .int 3, .int 5, .int 4, .int 1, .int 2], .tuple [.int 0, .int 3, .int 5, .int 4, .int 2, .int 1], .tuple [.int 0, .int 4, .int 1, .int 2, .int 3, .int 5], .tuple [.int 0, .int 4, .int 1, .int 2, .int 5, .int 3], .tuple [.int 0, .int 4, .int 1, .int 3, .int 2, .int 5], .tuple [.int 0, .int 4, .int 1, .int 3, .int 5, .int 2], .tuple [.int 0, .int 4, .int 1, .int 5, .int 2, .int 3], .tuple [.int 0, .int 4, .int 1, .int 5, .int 3, .int 2], .tuple [.int 0, .int 4, .int 2, .int 1, .int 3, .int 5], .tuple [.int 0, .int 4, .int 2, .int 1, .int 5, .int 3]]
def f6_3 : List D := [.tuple [.int 0, .int 3, .int 4, .int 1, .int 2, .int 5], .tuple [.int 0, .int 3, .int 4, .int 2, .int 1, .int 5], .tuple [.int 0, .int 3, .int 4, .int 2, .int 5, .int 1], .tuple [.int 0, .int 3, .int 4, .int 5, .int 1, .int 2], .tuple [.int 0, .int 3, .int 4, .int 5, .int 2, .int 1], .tuple [.int 0, .int 3, .int 5, .int 4, .int 1, .int 2], .tuple [.int 0, .int 3, .int 5, .int 4, .int 2, .int 1], .tuple [.int 0, .int 4, .int 1, .int 2, .int 3, .int 5], .tuple [.int 0, .int 4, .int 1, .int 3, .int 2, .int 5], .tuple [.int 0, .int 4, .int 1, .int 3, .int 5, .int 2], .tuple [.int 0, .int 4, .int 2, .int 1, .int 3, .int 5]]
def c6_3 : List Nat := [3486293573731129205822571992661399435741952436017323104782058134527830214607509539015452354687035871336825078994107989519864064212218405870499214986905519622, 228477735648042496964156450983876081456504627898227340961913437947556311298353861936220000015468560872845848841441426510152313015472117367439579922707760657335814, 228477735648042484477353527491762620224781701151553039063605120336310085640138054349476362723017202628951016116061573807857155920687931145473880855428845147653638, 3486293573731129205819664682300223298570067421750082115014967164103415776171556886314628945017855053777401093660264725167188734353063047493218888931294447110, 3486293573731117202211859908811585715583871885644709686838427515355561274986092563217372032758153057620336039271647144351901816171483176290050710170392462854, 3486293573731129205822571992661399435741952897759629088752187646286618718347241698509166310293923619324664758257632736038064629580319622533284962262959130118, 3486293573731117202211859908811585715583871885654103713408102996123722428019566877400593178555087807537253788900986881676102885592976310309699495226532824582, 3486293573731141590872409207964375428855442899399056154973325838504463997795375357191024724821222966456292773106015798918817869258553098149873263516051703302, 228477735648043296131785517948600734820762058212012808899880173538590440071784865339790565421639488663253825814289294809029359423771805223246065833109611423860230, 228477735648043283644982408388613067680452242658353861168540324365393187327313328816640225031068110595541428409444409707533118987404527718487559874424378396902918, 228477735648042496964156450983876081456507250534544319156496046875093823881212547253412533785853648288819421839405917074516308489677184503090410417615631691417094]
theorem sp6_3 : ss6_3.map (fun a => PyData.tuple (a.1.map (Pm.dAt 6))) = p6_3 := by kernel_rfl
theorem ch6_3 : chainP 6 ([0, 3, 2, 5, 4, 1], [6, 3, 3, 1, 1, 1]) ss6_3 = some ([0, 4, 2, 1, 5, 3], [6, 2, 3, 3, 1, 1]) := by kernel_rfl
def ss6_4 : List Pm.St2 := [([0, 4, 2, 3, 1, 5], [6, 2, 3, 2, 2, 1]), ([0, 4, 2, 3, 5, 1], [6, 2, 3, 2, 1, 1]), ([0, 4, 2, 5, 1, 3], [6, 2, 3, 1, 2, 1]), ([0, 4, 2, 5, 3, 1], [6, 2, 3, 1, 1, 1]), ([0, 4, 3, 1, 2, 5], [6, 2, 2, 3, 2, 1]), ([0, 4, 3, 1, 5, 2], [6, 2, 2, 3, 1, 1]), ([0, 4, 3, 2, 1, 5], [6, 2, 2, 2, 2, 1]), ([0, 4, 3, 2, 5, 1], [6, 2, 2, 2, 1, 1]), ([0, 4, 3, 5, 1, 2], [6, 2, 2, 1, 2, 1]), ([0, 4, 3, 5, 2, 1], [6, 2, 2, 1, 1, 1]), ([0, 4, 5, 1, 2, 3], [6, 2, 1, 3, 2, 1]), ([0, 4, 5, 1, 3, 2], [6, 2, 1, 3, 1, 1]), ([0, 4, 5, 2, 1, 3], [6, 2, 1, 2, 2, 1]), ([0, 4, 5, 2, 3, 1], [6, 2, 1, 2, 1, 1]), ([0, 4, 5, 3, 1, 2], [6, 2, 1, 1, 2, 1]), ([0, 4, 5, 3, 2, 1], [6, 2, 1, 1, 1, 1]), ([0, 5, 1, 2, 3, 4], [6, 1, 4, 3, 2, 1]), ([0, 5, 1, 2, 4, 3], [6, 1, 4, 3, 1, 1]), ([0, 5, 1, 3, 2, 4], [6, 1, 4, 2, 2, 1]), ([0, 5, 1, 3, 4, 2], [6, 1, 4, 2, 1, 1])]
def p6_4 : List D := [.tuple [.int 0, .int 4, .int 2, .int 3, .int 1, .int 5], .tuple [.int 0, .int 4, .int 2, .int 3, .int 5, .int 1], .tuple [.int 0, .int 4, .int 2, .int 5, .int 1, .int 3], .tuple [.int 0, .int 4, .int 2, .int 5, .int 3, .int 1], .tuple [.int 0, .int 4, .int 3, .int 1, .int 2, .int 5], .tuple [.int 0, .int 4, .int 3, .int 1, .int 5, .int 2], .tuple [.int 0, .int 4, .int 3, .int 2, .int 1, .int 5], .tuple [.int 0, .int 4, .int 3, .int 2, .int 5, .int 1], .tuple [.int 0, .int 4, .int 3, .int 5, .int 1, .int 2], .tuple [.int 0, .int 4, .int 3, .int 5, .int 2, .int 1], .tuple [.int 0, .int 4, .int 5, .int 1, .int 2, .int 3], .tuple [.int 0, .int 4, .int 5, .int 1, .int 3, .int 2], .tuple [.int 0, .int 4, .int 5, .int 2, .int 1, .int 3], .tuple [.int 0, .int 4, .int 5, .int 2, .int 3, .int 1], .tuple [.int 0, .int 4, .int 5, .int 3, .int 1, .int 2], .tuple [.int 0, .int 4, .int 5, .int 3, .int 2, .int 1], .tuple [.int 0, .int 5, .int 1, .int 2, .int 3, .int 4], .tuple [.int 0, .int 5, .int 1, .int 2, .int 4, .int 3], .tuple [.int 0, .int 5, .int 1, .int 3, .int 2, .int 4], .tuple [.int 0, .int 5, .int 1, .int 3, .int 4, .int 2]]
def f6_4 : List D := [.tuple [.int 0, .int 4, .int 2, .int 3, .int 1, .int 5], .tuple [.int 0, .int 4, .int 2, .int 3, .int 5, .int 1], .tuple [.int 0, .int 4, .int 3, .int 1, .int 2, .int 5], .tuple [.int 0, .int 4, .int 3, .int 2, .int 1, .int 5], .tuple [.int 0, .int 4, .int 3, .int 2, .int 5, .int 1], .tuple [.int 0, .int 4, .int 3, .int 5, .int 1, .int 2], .tuple [.int 0, .int 4, .int 3, .int 5, .int 2, .int 1], .tuple [.int 0, .int 4, .int 5, .int 1, .int 2, .int 3], .tuple [.int 0, .int 4, .int 5, .int 1, .int 3, .int 2], .tuple [.int 0, .int 4, .int 5, .int 2, .int 1, .int 3], .tuple [.int 0, .int 4, .int 5, .int 2, .int 3, .int 1], .tuple [.int 0, .int 4, .int 5, .int 3, .int 1, .int 2], .tuple [.int 0, .int 4, .int 5, .int 3, .int 2, .int 1], .tuple [.int 0, .int 5, .int 1, .int 2, .int 3, .int 4], .tuple [.int 0, .int 5, .int 1, .int 2, .int 4, .int 3], .tuple [.int 0, .int 5, .int 1, .int 3, .int 2, .int 4], .tuple [.int 0, .int 5, .int 1, .int 3, .int 4, .int 2]]
def c6_4 : List Nat := [14973516883430112261109505519938367056583915787636715136507337499924880080784782025204409769673705779076753040986605593849937960206188197448549101506532549748846888454, 14973516883430112261097018717014874943122684062087372163481593031156889406902765202769286066003749720133307030856846191541271047733734221319617019086998622798254310918, 228477735648043296131785328959186566932669077383144813804127867930278773901329209076138910477218378279371628466049710603056942460572898224973702994226226127046150, 14973516883430113081042957171679302874333489940703886814056490564906997784412758997806041758821993831883828889884872722570839795174606490436179915244714094588051457542, 14973516883430112262707840777700155079051293566708566406973132816071959153544911685125327858707125854232427337765309672540834478532211354764501434491212195580522923526, 228477735648043283644982408385729318074618989286454006615392500996472162063852475916611787963579334638656908722595223922862007347741392969540442681387896411653638, 228477735648042496964156450983876081456504627937629347158307917166243313015519200131856858583720879668689450485719919034115029208432447327141101629255485084796422, 3486293573731141400338917377925728623727537513213443230203778183514583083064583923355222255392475536498182530072744304947440919196478821640902365536118507014, 3486293573731129396542137419870006329662506376113533401914445988665164994777587649752926575451323267989224325731466252436464998342278959025168571871852365318, 228477735648042496964156450983876081456507210187507434066753810012317583246582171638760015694396131127534258214780476327693843929952967972143440168222853765137926, 228477735648042484452964866942418930917112972833196534723239864466675068733888967816601487993707493920281856625716872687606072519535079079943131834425706283402758, 3486293573731129396542134536120400496409135091896502180018367937456522009075680322599278861271984571576017306464891812554879515020345081141866343963023508998, 3486293573731117202211859908811585715583872501902255884850511924574847621981808508521604113675240414682313888764445639795730438659555270558253539992298456582, 3486293573731153785202683879809029252870487995362124106278857133388308129656373296200137146484325622601648826110069830112793252391599309398243029740903859718, 3486293573731141590872414930928426943741141481618652141867638071837794920101845301099246917806837956850502271466322889678241746148335666113409628398351156742, 228477735648043296131785517948600734820764640461890895808326206375119058032632721077392465664918684468596885598913692615984323288223000457431679427268762852001286, 228477735648043283632788078113941223026617878518876311483104339891372861307995956169417972174048812506628571058912346105556972451100578068427898296512193789036038]
theorem sp6_4 : ss6_4.map (fun a => PyData.tuple (a.1.map (Pm.dAt 6))) = p6_4 := by kernel_rfl
theorem ch6_4 : chainP 6 ([0, 4, 2, 1, 5, 3], [6, 2, 3, 3, 1, 1]) ss6_4 = some ([0, 5, 1, 3, 4, 2], [6, 1, 4, 2, 1, 1]) := by kernel_rfl
def ss6_5 : List Pm.St2 := [([0, 5, 1, 4, 2, 3], [6, 1, 4, 1, 2, 1]), ([0, 5, 1, 4, 3, 2], [6, 1, 4, 1, 1, 1]), ([0, 5, 2, 1, 3, 4], [6, 1, 3, 3, 2, 1]), ([0, 5, 2, 1, 4, 3], [6, 1, 3, 3, 1, 1]), ([0, 5, 2, 3, 1, 4], [6, 1, 3, 2, 2, 1]), ([0, 5, 2, 3, 4, 1], [6, 1, 3, 2, 1, 1]), ([0, 5, 2, 4, 1, 3], [6, 1, 3, 1, 2, 1]), ([0, 5, 2, 4, 3, 1], [6, 1, 3, 1, 1, 1]), ([0, 5, 3, 1, 2, 4], [6, 1, 2, 3, 2, 1]), ([0, 5, 3, 1, 4, 2], [6, 1, 2, 3, 1, 1]), ([0, 5, 3, 2, 1, 4], [6, 1, 2, 2, 2, 1]), ([0, 5, 3, 2, 4, 1], [6, 1, 2, 2, 1, 1]), ([0, 5, 3, 4, 1, 2], [6, 1, 2, 1, 2, 1]), ([0, 5, 3, 4, 2, 1], [6, 1, 2, 1, 1, 1]), ([0, 5, 4, 1, 2, 3], [6, 1, 1, 3, 2, 1]), ([0, 5, 4, 1, 3, 2], [6, 1, 1, 3, 1, 1]), ([0, 5, 4, 2, 1, 3], [6, 1, 1, 2, 2, 1]), ([0, 5, 4, 2, 3, 1], [6, 1, 1, 2, 1, 1]), ([0, 5, 4, 3, 1, 2], [6, 1, 1, 1, 2, 1]), ([0, 5, 4, 3, 2, 1], [6, 1, 1, 1, 1, 1])]
def p6_5 : List D := [.tuple [.int 0, .int 5, .int 1, .int 4, .int 2, .int 3], .tuple [.int 0, .int 5, .int 1, .int 4, .int 3, .int 2], .tuple [.int 0, .int 5, .int 2, .int 1, .int 3, .int 4], .tuple [.int 0, .int 5, .int 2, .int 1, .int 4, .int 3], .tuple [.int 0, .int 5, .int 2, .int 3, .int 1, .int 4], .tuple [.int 0, .int 5, .int 2, .int 3, .int 4, .int 1], .tuple [.int 0, .int 5, .int 2, .int 4, .int 1, .int 3], .tuple [.int 0, .int 5, .int 2, .int 4, .int 3, .int 1], .tuple [.int 0, .int 5, .int 3, .int 1, .int 2, .int 4], .tuple [.int 0, .int 5, .int 3, .int 1, .int 4, .int 2], .tuple [.int 0, .int 5, .int 3, .int 2, .int 1, .int 4], .tuple [.int 0, .int 5, .int 3, .int 2, .int 4, .int 1], .tuple [.int 0, .int 5, .int 3, .int 4, .int 1, .int 2], .tuple [.int 0, .int 5, .int 3, .int 4, .int 2, .int 1], .tuple [.int 0, .int 5, .int 4, .int 1, .int 2, .int 3], .tuple [.int 0, .int 5, .int 4, .int 1, .int 3, .int 2], .tuple [.int 0, .int 5, .int 4, .int 2, .int 1, .int 3], .tuple [.int 0, .int 5, .int 4, .int 2, .int 3, .int 1], .tuple [.int 0, .int 5, .int 4, .int 3, .int 1, .int 2], .tuple [.int 0, .int 5, .int 4, .int 3, .int 2, .int 1]]
def f6_5 : List D := [.tuple [.int 0, .int 5, .int 1, .int 4, .int 2, .int 3], .tuple [.int 0, .int 5, .int 1, .int 4, .int 3, .int 2], .tuple [.int 0, .int 5, .int 2, .int 1, .int 3, .int 4], .tuple [.int 0, .int 5, .int 2, .int 1, .int 4, .int 3], .tuple [.int 0, .int 5, .int 2, .int 3, .int 1, .int 4], .tuple [.int 0, .int 5, .int 2, .int 3, .int 4, .int 1], .tuple [.int 0, .int 5, .int 2, .int 4, .int 3, .int 1], .tuple [.int 0, .int 5, .int 3, .int 1, .int 2, .int 4], .tuple [.int 0, .int 5, .int 3, .int 2, .int 1, .int 4], .tuple [.int 0, .int 5, .int 3, .int 2, .int 4, .int 1], .tuple [.int 0, .int 5, .int 3, .int 4, .int 1, .int 2], .tuple [.int 0, .int 5, .int 3, .int 4, .int 2, .int 1], .tuple [.int 0, .int 5, .int 4, .int 1, .int 2, .int 3], .tuple [.int 0, .int 5, .int 4, .int 1, .int 3, .int 2], .tuple [.int 0, .int 5, .int 4, .int 2, .int 1, .int 3], .tuple [.int 0, .int 5, .int 4, .int 2, .int 3, .int 1], .tuple [.int 0, .int 5, .int 4, .int 3, .int 1, .int 2], .tuple [.int 0, .int 5, .int 4, .int 3, .int 2, .int 1]]
def c6_5 : List Nat := [3486293573731141590872412047222144074458367912540042222242409814592219914556117463382601681965588684647919988572708083052528760806913870348908320077375735302, 3486293573731129396542137419870006329662506991760467846303395267856246741308235080226950298914092056815550068996411225254186249222158728313720246853370775046, 228477735648042496964156450983876081456509832784422406064942079711622441842060402991015345715181513443904219743847095567715393140205171968499716942467848976336390, 228477735648042496964156450983876081456507250534544929805053995509424030540773340729989512415048348669139957081797441462841882914556705912284160235536105095955974, 14973516883430112261109505519938367056583915790218965014594245945957716609402742873060147372485635106941908125784510033589809737409247041907897142380982151881374959110, 14973516883430112261097006522684600271278030227723232685931907595172415386576745885396638843750906612060325987716013878815687175910865219243331043799747875096295245318, 228477735648042484452964866942418930917112972833812181657684113431907873702872338653532201334416732387956746849393432372065468798123438576082690293651035472135686, 228477735648043296131785328959186566932669077422546820000378724059914428950446348913028180147552022523450369588888243325188448863873564738619671392722366893524486, 14973516883430113081042957171679302874333489940703886814056490564907544597093952757616469655281593020698023617271782096111245563017853287640004523396022841679764915718, 14973516883430112261908673148819261067817604675881515832701491691549726547268666862496874332178525798096204387287906724465873441235563437751400929582007078111137891846, 228477735648043283632788078111057473420784625107575051960463227411479135651424267534588804017836694485053480322278892348090987406629991681774474041018502590367238, 228477735648042496964156450983876081456504627898227340961913437953964273042690334847218428496135986324327818029759887517469421640695429888903901623442500206593542, 3486293573731141590872409207964375428855443361141362138943455350230659925913755739304443549517225850342123472010389355688892931624859735634241741838262601222, 3486293573731129396542137419870006329662506991760449354551394249649023465211812412733382083773705488926518679997445656787570466963205212924038077678226900486, 228477735648042496964156450983876081456507250534544319156496046881501785625549020194517808313269575623944473519944788143649301731320690227082601133012661762917894, 228477735648042484452964866942418930917112972833812181648366355894849952526039525782430280684634905929627810150730684376256765298044348671053400566340821522449926, 3486293573731129396542134536120400496409135091905896206728025328623760004358912384296321604794093663758976849684584254572513240155098220271985401606888097286, 3486293573731117202211859908811585715583872501902255884850511924574849611244341125200998663705625181562976607913524664893606281911357296008874844980964099590]
theorem sp6_5 : ss6_5.map (fun a => PyData.tuple (a.1.map (Pm.dAt 6))) = p6_5 := by kernel_rfl
theorem ch6_5 : chainP 6 ([0, 5, 1, 3, 4, 2], [6, 1, 4, 2, 1, 1]) ss6_5 = some ([0, 5, 4, 3, 2, 1], [6, 1, 1, 1, 1, 1]) := by kernel_rfl
def ss6_6 : List Pm.St2 := [([1, 0, 2, 3, 4, 5], [5, 5, 4, 3, 2, 1]), ([1, 0, 2, 3, 5, 4], [5, 5, 4, 3, 1, 1]), ([1, 0, 2, 4, 3, 5], [5, 5, 4, 2, 2, 1]), ([1, 0, 2, 4, 5, 3], [5, 5, 4, 2, 1, 1]), ([1, 0, 2, 5, 3, 4], [5, 5, 4, 1, 2, 1]), ([1, 0, 2, 5, 4, 3], [5, 5, 4, 1, 1, 1]), ([1, 0, 3, 2, 4, 5], [5, 5, 3, 3, 2, 1]), ([1, 0, 3, 2, 5, 4], [5, 5, 3, 3, 1, 1]), ([1, 0, 3, 4, 2, 5], [5, 5, 3, 2, 2, 1]), ([1, 0, 3, 4, 5, 2], [5, 5, 3, 2, 1, 1]), ([1, 0, 3, 5, 2, 4], [5, 5, 3, 1, 2, 1]), ([1, 0, 3, 5, 4, 2], [5, 5, 3, 1, 1, 1]), ([1, 0, 4, 2, 3, 5], [5, 5, 2, 3, 2, 1]), ([1, 0, 4, 2, 5, 3], [5, 5, 2, 3, 1, 1]), ([1, 0, 4, 3, 2, 5], [5, 5, 2, 2, 2, 1]), ([1, 0, 4, 3, 5, 2], [5, 5, 2, 2, 1, 1]), ([1, 0, 4, 5, 2, 3], [5, 5, 2, 1, 2, 1]), ([1, 0, 4, 5, 3, 2], [5, 5, 2, 1, 1, 1]), ([1, 0, 5, 2, 3, 4], [5, 5, 1, 3, 2, 1]), ([1, 0, 5, 2, 4, 3], [5, 5, 1, 3, 1, 1])]
def p6_6 : List D := [.tuple [.int 1, .int 0, .int 2, .int 3, .int 4, .int 5], .tuple [.int 1, .int 0, .int 2, .int 3, .int 5, .int 4], .tuple [.int 1, .int 0, .int 2, .int 4, .int 3, .int 5], .tuple [.int 1, .int 0, .int 2, .int 4, .int 5, .int 3], .tuple [.int 1, .int 0, .int 2, .int 5, .int 3, .int 4], .tuple [.int 1, .int 0, .int 2, .int 5, .int 4, .int 3], .tuple [.int 1, .int 0, .int 3, .int 2, .int 4, .int 5], .tuple [.int 1, .int 0, .int 3, .int 2, .int 5, .int 4], .tuple [.int 1, .int 0, .int 3, .int 4, .int 2, .int 5], .tuple [.int 1, .int 0, .int 3, .int 4, .int 5, .int 2], .tuple [.int 1, .int 0, .int 3, .int 5, .int 2, .int 4], .tuple [.int 1, .int 0, .int 3, .int 5, .int 4, .int 2], .tuple [.int 1, .int 0, .int 4, .int 2, .int 3, .int 5], .tuple [.int 1, .int 0, .int 4, .int 2, .int 5, .int 3], .tuple [.int 1, .int 0, .int 4, .int 3, .int 2, .int 5], .tuple [.int 1, .int 0, .int 4, .int 3, .int 5, .int 2], .tuple [.int 1, .int 0, .int 4, .int 5, .int 2, .int 3], .tuple [.int 1, .int 0, .int 4, .int 5, .int 3, .int 2], .tuple [.int 1, .int 0, .int 5, .int 2, .int 3, .int 4], .tuple [.int 1, .int 0, .int 5, .int 2, .int 4, .int 3]]
def f6_6 : List D := [.tuple [.int 1, .int 0, .int 2, .int 3, .int 4, .int 5], .tuple [.int 1, .int 0, .int 2, .int 3, .int 5, .int 4], .tuple [.int 1, .int 0, .int 2, .int 4, .int 3, .int 5], .tuple [.int 1, .int 0, .int 2, .int 4, .int 5, .int 3], .tuple [.int 1, .int 0, .int 2, .int 5, .int 3, .int 4], .tuple [.int 1, .int 0, .int 2, .int 5, .int 4, .int 3], .tuple [.int 1, .int 0, .int 3, .int 2, .int 4, .int 5], .tuple [.int 1, .int 0, .int 3, .int 2, .int 5, .int 4], .tuple [.int 1, .int 0, .int 3, .int 4, .int 2, .int 5], .tuple [.int 1, .int 0, .int 3, .int 4, .int 5, .int 2], .tuple [.int 1, .int 0, .int 3, .int 5, .int 4, .int 2], .tuple [.int 1, .int 0, .int 4, .int 2, .int 3, .int 5], .tuple [.int 1, .int 0, .int 4, .int 3, .int 2, .int 5], .tuple [.int 1, .int 0, .int 4, .int 3, .int 5, .int 2], .tuple [.int 1, .int 0, .int 4, .int 5, .int 2, .int 3], .tuple [.int 1, .int 0, .int 4, .int 5, .int 3, .int 2], .tuple [.int 1, .int 0, .int 5, .int 2, .int 3, .int 4], .tuple [.int 1, .int 0, .int 5, .int 2, .int 4, .int 3]]
def c6_6 : List Nat := [12385802867708779501333475528757201965167852432735282440301571105643604839911316829645105607369733921128828908989640296373089995470374560990726, 811715976738162573399390652252632449731546504903272872049978676091507202448213518963733536812303753999232534813263673535101529455186840976682780166, 53196618251512222410302465786028520225606030518439560857314676696537078109224577476307337935800660590009059906343680158002586445922144615133684257129990, 53196618251512222410302465786028520225606021124412851199923607236278402748800106282161848195401563683715206683410005045939303612889852109343685129668102, 53196618251512222410302465786028520225606631745340748767106693842152482072580794176459565955660480200298996026604273303409692938322351486446295987914246, 53196618251512222410302465786028520225606030518439560857314774474273685981326773838253827314621388705922345947433890225713789725163158578156326881723910, 53196618251512222410302465786028520225605429291538230771961950876741140198803033773699279492509725347374068705196877723606327756192640468126263652255238, 3486293573731105007881582397753165101505277414050249491871304820619853697574845162176769175184402708813427667910995607063956141357596833434698544610269332998, 3486293573731105007881582397753165101505276797802097320428895892070821462993648264024785809828725638347312904491007747422836113969404799167764664997302896134, 3486293573731105007881582397753165101505276797792703293859220411400438046568045587067413370323133721510229208086383759516861718508763652900984453206894839302, 3486293573731105007881582397753165101505276797802097320428895892168599199601520366221147864473415019532439368124732504981901337763356267780227162835488474630, 3486293573731105007881582397753165101505316816056445742587444001927045715051428496525892587330939496623276847964251216729746533541947772255697296181791426054, 228477735648041697796527384019151428092249860607197150699277832724134388224904043824515163382274371649942305310767887142344650800726734177311253890255826635326982, 228477735648041697796527384019151428092249820260160256188022600401440357117914103975200730480064371834005932605727312203083836569870468219929602853676002566342150, 3486293573731105007881582397753165101505316200409520616096015827141031301101334304959050366104960692081028700656502373402377037161327828059233650148993533446, 3486293573731105007881582397753165101505277414050249491871304820619724393563761997342158799593567626677499467988191263101528890829935228028781207601254106630, 3486293573731105007881582397753165101505356218062642137064464766644584441291126653473688580533448581429935584339769878895869914515029671265281539550522770950, 3486293573731105007881582397753165101505316816056455060344981059946000284472171700642904423696774915076544787625195840939494175353923448477286800050635539974]
theorem sp6_6 : ss6_6.map (fun a => PyData.tuple (a.1.map (Pm.dAt 6))) = p6_6 := by kernel_rfl
theorem ch6_6 : chainP 6 ([0, 5, 4, 3, 2, 1], [6, 1, 1, 1, 1, 1]) ss6_6 = some ([1, 0, 5, 2, 4, 3], [5, 5, 1, 3, 1, 1]) := by kernel_rfl
def ss6_7 : List Pm.St2 := [([1, 0, 5, 3, 2, 4], [5, 5, 1, 2, 2, 1]), ([1, 0, 5, 3, 4, 2], [5, 5, 1, 2, 1, 1]), ([1, 0, 5, 4, 2, 3], [5, 5, 1, 1, 2, 1]), ([1, 0, 5, 4, 3, 2], [5, 5, 1, 1, 1, 1]), ([1, 2, 0, 3, 4, 5], [5, 4, 4, 3, 2, 1]), ([1, 2, 0, 3, 5, 4], [5, 4, 4, 3, 1, 1]), ([1, 2, 0, 4, 3, 5], [5, 4, 4, 2, 2, 1]), ([1, 2, 0, 4, 5, 3], [5, 4, 4, 2, 1, 1]), ([1, 2, 0, 5, 3, 4], [5, 4, 4, 1, 2, 1]), ([1, 2, 0, 5, 4, 3], [5, 4, 4, 1, 1, 1]), ([1, 2, 3, 0, 4, 5], [5, 4, 3, 3, 2, 1]), ([1, 2, 3, 0, 5, 4], [5, 4, 3, 3, 1, 1]), ([1, 2, 3, 4, 0, 5], [5, 4, 3, 2, 2, 1]), ([1, 2, 3, 4, 5, 0], [5, 4, 3, 2, 1, 1]), ([1, 2, 3, 5, 0, 4], [5, 4, 3, 1, 2, 1]), ([1, 2, 3, 5, 4, 0], [5, 4, 3, 1, 1, 1]), ([1, 2, 4, 0, 3, 5], [5, 4, 2, 3, 2, 1]), ([1, 2, 4, 0, 5, 3], [5, 4, 2, 3, 1, 1]), ([1, 2, 4, 3, 0, 5], [5, 4, 2, 2, 2, 1]), ([1, 2, 4, 3, 5, 0], [5, 4, 2, 2, 1, 1])]
def p6_7 : List D := [.tuple [.int 1, .int 0, .int 5, .int 3, .int 2, .int 4], .tuple [.int 1, .int 0, .int 5, .int 3, .int 4, .int 2], .tuple [.int 1, .int 0, .int 5, .int 4, .int 2, .int 3], .tuple [.int 1, .int 0, .int 5, .int 4, .int 3, .int 2], .tuple [.int 1, .int 2, .int 0, .int 3, .int 4, .int 5], .tuple [.int 1, .int 2, .int 0, .int 3, .int 5, .int 4], .tuple [.int 1, .int 2, .int 0, .int 4, .int 3, .int 5], .tuple [.int 1, .int 2, .int 0, .int 4, .int 5, .int 3], .tuple [.int 1, .int 2, .int 0, .int 5, .int 3, .int 4], .tuple [.int 1, .int 2, .int 0, .int 5, .int 4, .int 3], .tuple [.int 1, .int 2, .int 3, .int 0, .int 4, .int 5], .tuple [.int 1, .int 2, .int 3, .int 0, .int 5, .int 4], .tuple [.int 1, .int 2, .int 3, .int 4, .int 0, .int 5], .tuple [.int 1, .int 2, .int 3, .int 4, .int 5, .int 0], .tuple [.int 1, .int 2, .int 3, .int 5, .int 0, .int 4], .tuple [.int 1, .int 2, .int 3, .int 5, .int 4, .int 0], .tuple [.int 1, .int 2, .int 4, .int 0, .int 3, .int 5], .tuple [.int 1, .int 2, .int 4, .int 0, .int 5, .int 3], .tuple [.int 1, .int 2, .int 4, .int 3, .int 0, .int 5], .tuple [.int 1, .int 2, .int 4, .int 3, .int 5, .int 0]]
def f6_7 : List D := [.tuple [.int 1, .int 0, .int 5, .int 3, .int 2, .int 4], .tuple [.int 1, .int 0, .int 5, .int 3, .int 4, .int 2], .tuple [.int 1, .int 0, .int 5, .int 4, .int 2, .int 3], .tuple [.int 1, .int 0, .int 5, .int 4, .int 3, .int 2], .tuple [.int 1, .int 2, .int 0, .int 3, .int 4, .int 5], .tuple [.int 1, .int 2, .int 0, .int 3, .int 5, .int 4], .tuple [.int 1, .int 2, .int 0, .int 4, .int 3, .int 5], .tuple [.int 1, .int 2, .int 0, .int 4, .int 5, .int 3], .tuple [.int 1, .int 2, .int 0, .int 5, .int 3, .int 4], .tuple [.int 1, .int 2, .int 0, .int 5, .int 4, .int 3], .tuple [.int 1, .int 2, .int 3, .int 0, .int 4, .int 5], .tuple [.int 1, .int 2, .int 3, .int 0, .int 5, .int 4], .tuple [.int 1, .int 2, .int 3, .int 4, .int 0, .int 5], .tuple [.int 1, .int 2, .int 3, .int 4, .int 5, .int 0], .tuple [.int 1, .int 2, .int 3, .int 5, .int 4, .int 0], .tuple [.int 1, .int 2, .int 4, .int 3, .int 0, .int 5], .tuple [.int 1, .int 2, .int 4, .int 3, .int 5, .int 0]]
def c6_7 : List Nat := [228477735648041697796527384019151428092249860607197150699277832724142731924263079466153772642217409107119821006600747906994404941666495130464191123134821591025158, 228477735648041697796527384019151428092249820220758249991628121189161317145085238690562300392479478496096963809570210928119289681511331050747868181001143228696070, 3486293573731105007881582397753165101505316816056445742587444002024823451659300598722254641870316586139846124877200032235994096264018419187559489836685854214, 3486293573731105007881582397753165101505277414050249491871304820619726382826294614021553349623952393656623523214220471180707767189214622367109207766314911238, 811715976738162528907386870610084766062275104742531925739204979661848315456837708002069474681486993289694175124885136800498560254863624665523684870, 53196618251512219494474505952302515229119003570534303834600161216692222057775964619881821209087589086707226398986885456060120693207551731193362138924550, 3486293573731104816789881222090097638055543017397309234774270812771321668840495195784872426805633239119855120523426053578189942321616623991227706523555071494, 3486293573731104816789881222090097638055543017387915208064613421701861410165105128991139583360445851985546946599111783252658068330391664582305135062782707206, 3486293573731104816789881222090097638055543017998536135962180604788467284244428909679033881078207717840107789378730519483002687585461084457047489970147034630, 3486293573731104816789881222090097638055543017397309234774270812869099405448337655206382826652635103900570521008930211412941862387282725616863100943326381574, 53196618251512219494430057271484843319167515211855770331472703673743328464827316318290552432552876213958559155140872255219263134326776803092800913933830, 3486293573731104816786968233344030691764962738666485892034960417167407008820587079420567852705680337909632192004396390399946510948082494309088207346128520710, 3486293573731104816786968188938672838063690519359039935128695108563094807463060069115340481131438435808446126653524043853451980138396656370173118906796213766, 3486293573731104816786968188937995927130924854167002211936744344479792103717194388789888339266807053633025267832989296227255897028794910239041634435458270726, 3486293573731104816786968188938672838063690519366085563579126193482265740368574114865220089205230238428660556983293529386541708602958297574499347107148072454, 228477735648041685272950750140434395415508598041246218193501835814130459910270056926021177496911720904760401959545295361819611952586592940072841525372701834085894, 228477735648041685272950747233124076882121736293384079610110137462276406043615515701178265387347529053577829883143050405883174856758692710355844317620568007771654]
theorem sp6_7 : ss6_7.map (fun a => PyData.tuple (a.1.map (Pm.dAt 6))) = p6_7 := by kernel_rfl
theorem ch6_7 : chainP 6 ([1, 0, 5, 2, 4, 3], [5, 5, 1, 3, 1, 1]) ss6_7 = some ([1, 2, 4, 3, 5, 0], [5, 4, 2, 2, 1, 1]) := by kernel_rfl
def ss6_8 : List Pm.St2 := [([1, 2, 4, 5, 0, 3], [5, 4, 2, 1, 2, 1]), ([1, 2, 4, 5, 3, 0], [5, 4, 2, 1, 1, 1]), ([1, 2, 5, 0, 3, 4], [5, 4, 1, 3, 2, 1]), ([1, 2, 5, 0, 4, 3], [5, 4, 1, 3, 1, 1]), ([1, 2, 5, 3, 0, 4], [5, 4, 1, 2, 2, 1]), ([1, 2, 5, 3, 4, 0], [5, 4, 1, 2, 1, 1]), ([1, 2, 5, 4, 0, 3], [5, 4, 1, 1, 2, 1]), ([1, 2, 5, 4, 3, 0], [5, 4, 1, 1, 1, 1]), ([1, 3, 0, 2, 4, 5], [5, 3, 4, 3, 2, 1]), ([1, 3, 0, 2, 5, 4], [5, 3, 4, 3, 1, 1]), ([1, 3, 0, 4, 2, 5], [5, 3, 4, 2, 2, 1]), ([1, 3, 0, 4, 5, 2], [5, 3, 4, 2, 1, 1]), ([1, 3, 0, 5, 2, 4], [5, 3, 4, 1, 2, 1]), ([1, 3, 0, 5, 4, 2], [5, 3, 4, 1, 1, 1]), ([1, 3, 2, 0, 4, 5], [5, 3, 3, 3, 2, 1]), ([1, 3, 2, 0, 5, 4], [5, 3, 3, 3, 1, 1]), ([1, 3, 2, 4, 0, 5], [5, 3, 3, 2, 2, 1]), ([1, 3, 2, 4, 5, 0], [5, 3, 3, 2, 1, 1]), ([1, 3, 2, 5, 0, 4], [5, 3, 3, 1, 2, 1]), ([1, 3, 2, 5, 4, 0], [5, 3, 3, 1, 1, 1])]
def p6_8 : List D := [.tuple [.int 1, .int 2, .int 4, .int 5, .int 0, .int 3], .tuple [.int 1, .int 2, .int 4, .int 5, .int 3, .int 0], .tuple [.int 1, .int 2, .int 5, .int 0, .int 3, .int 4], .tuple [.int 1, .int 2, .int 5, .int 0, .int 4, .int 3], .tuple [.int 1, .int 2, .int 5, .int 3, .int 0, .int 4], .tuple [.int 1, .int 2, .int 5, .int 3, .int 4, .int 0], .tuple [.int 1, .int 2, .int 5, .int 4, .int 0, .int 3], .tuple [.int 1, .int 2, .int 5, .int 4, .int 3, .int 0], .tuple [.int 1, .int 3, .int 0, .int 2, .int 4, .int 5], .tuple [.int 1, .int 3, .int 0, .int 2, .int 5, .int 4], .tuple [.int 1, .int 3, .int 0, .int 4, .int 2, .int 5], .tuple [.int 1, .int 3, .int 0, .int 4, .int 5, .int 2], .tuple [.int 1, .int 3, .int 0, .int 5, .int 2, .int 4], .tuple [.int 1, .int 3, .int 0, .int 5, .int 4, .int 2], .tuple [.int 1, .int 3, .int 2, .int 0, .int 4, .int 5], .tuple [.int 1, .int 3, .int 2, .int 0, .int 5, .int 4], .tuple [.int 1, .int 3, .int 2, .int 4, .int 0, .int 5], .tuple [.int 1, .int 3, .int 2, .int 4, .int 5, .int 0], .tuple [.int 1, .int 3, .int 2, .int 5, .int 0, .int 4], .tuple [.int 1, .int 3, .int 2, .int 5, .int 4, .int 0]]
def f6_8 : List D := [.tuple [.int 1, .int 2, .int 4, .int 5, .int 3, .int 0], .tuple [.int 1, .int 2, .int 5, .int 3, .int 0, .int 4], .tuple [.int 1, .int 2, .int 5, .int 3, .int 4, .int 0], .tuple [.int 1, .int 2, .int 5, .int 4, .int 3, .int 0], .tuple [.int 1, .int 3, .int 2, .int 0, .int 4, .int 5], .tuple [.int 1, .int 3, .int 2, .int 0, .int 5, .int 4], .tuple [.int 1, .int 3, .int 2, .int 4, .int 0, .int 5], .tuple [.int 1, .int 3, .int 2, .int 4, .int 5, .int 0], .tuple [.int 1, .int 3, .int 2, .int 5, .int 4, .int 0]]
def c6_8 : List Nat := [3486293573731104816786968233344030691764962738666476574699022310741262671661550621595497368777220764652538962781138062221972357531736121118370918827259463174, 228477735648041685272950750140434395415508598041246819420403023723922477055885460830556362715067728605262728472958399121636187596684204968859919357224960343279110, 228477735648041685272950747230284863115342021877175783494721614213884340670098550826892235918412699847889144868857623008863807219791102748679926068358254717961734, 3486293573731104816786968233344030691764962738666476718040494320894326136596781383351157192247995190534514294112585180533306257497233215502053664506610320902, 3486293573731104816789881222090097638055543016796082333444185460045501872902584310175268472222993156056942740262621759263885140376949507949046169794683209222, 228477735648041685273141655770896638807608067148748051804598138315949972488875359185317417893855387544606273495868115860892119942718619843652257156695466541712902, 228477735648041685272950936211147815090872578668140436295761300260966070043897551107197012485340054450854926125996097013044618732581569194922484403097897072461318, 228477735648041685272950933303837496557485716920278898930096937528368468914674754099065886161541318701609915360194677295543662442145281733709849198639005145892358, 228477735648041685272950936211147815090872578668140436295761300260966167821634158890370884292322466704007822051786698717296436562776866539519313635085145612879366]
theorem sp6_8 : ss6_8.map (fun a => PyData.tuple (a.1.map (Pm.dAt 6))) = p6_8 := by kernel_rfl
theorem ch6_8 : chainP 6 ([1, 2, 4, 3, 5, 0], [5, 4, 2, 2, 1, 1]) ss6_8 = some ([1, 3, 2, 5, 4, 0], [5, 3, 3, 1, 1, 1]) := by kernel_rfl
def ss6_9 : List Pm.St2 := [([1, 3, 4, 0, 2, 5], [5, 3, 2, 3, 2, 1]), ([1, 3, 4, 0, 5, 2], [5, 3, 2, 3, 1, 1]), ([1, 3, 4, 2, 0, 5], [5, 3, 2, 2, 2, 1]), ([1, 3, 4, 2, 5, 0], [5, 3, 2, 2, 1, 1]), ([1, 3, 4, 5, 0, 2], [5, 3, 2, 1, 2, 1]), ([1, 3, 4, 5, 2, 0], [5, 3, 2, 1, 1, 1]), ([1, 3, 5, 0, 2, 4], [5, 3, 1, 3, 2, 1]), ([1, 3, 5, 0, 4, 2], [5, 3, 1, 3, 1, 1]), ([1, 3, 5, 2, 0, 4], [5, 3, 1, 2, 2, 1]), ([1, 3, 5, 2, 4, 0], [5, 3, 1, 2, 1, 1]), ([1, 3, 5, 4, 0, 2], [5, 3, 1, 1, 2, 1]), ([1, 3, 5, 4, 2, 0], [5, 3, 1, 1, 1, 1]), ([1, 4, 0, 2, 3, 5], [5, 2, 4, 3, 2, 1]), ([1, 4, 0, 2, 5, 3], [5, 2, 4, 3, 1, 1]), ([1, 4, 0, 3, 2, 5], [5, 2, 4, 2, 2, 1]), ([1, 4, 0, 3, 5, 2], [5, 2, 4, 2, 1, 1]), ([1, 4, 0, 5, 2, 3], [5, 2, 4, 1, 2, 1]), ([1, 4, 0, 5, 3, 2], [5, 2, 4, 1, 1, 1]), ([1, 4, 2, 0, 3, 5], [5, 2, 3, 3, 2, 1]), ([1, 4, 2, 0, 5, 3], [5, 2, 3, 3, 1, 1])]
def p6_9 : List D := [.tuple [.int 1, .int 3, .int 4, .int 0, .int 2, .int 5], .tuple [.int 1, .int 3, .int 4, .int 0, .int 5, .int 2], .tuple [.int 1, .int 3, .int 4, .int 2, .int 0, .int 5], .tuple [.int 1, .int 3, .int 4, .int 2, .int 5, .int 0], .tuple [.int 1, .int 3, .int 4, .int 5, .int 0, .int 2], .tuple [.int 1, .int 3, .int 4, .int 5, .int 2, .int 0], .tuple [.int 1, .int 3, .int 5, .int 0, .int 2, .int 4], .tuple [.int 1, .int 3, .int 5, .int 0, .int 4, .int 2], .tuple [.int 1, .int 3, .int 5, .int 2, .int 0, .int 4], .tuple [.int 1, .int 3, .int 5, .int 2, .int 4, .int 0], .tuple [.int 1, .int 3, .int 5, .int 4, .int 0, .int 2], .tuple [.int 1, .int 3, .int 5, .int 4, .int 2, .int 0], .tuple [.int 1, .int 4, .int 0, .int 2, .int 3, .int 5], .tuple [.int 1, .int 4, .int 0, .int 2, .int 5, .int 3], .tuple [.int 1, .int 4, .int 0, .int 3, .int 2, .int 5], .tuple [.int 1, .int 4, .int 0, .int 3, .int 5, .int 2], .tuple [.int 1, .int 4, .int 0, .int 5, .int 2, .int 3], .tuple [.int 1, .int 4, .int 0, .int 5, .int 3, .int 2], .tuple [.int 1, .int 4, .int 2, .int 0, .int 3, .int 5], .tuple [.int 1, .int 4, .int 2, .int 0, .int 5, .int 3]]
def f6_9 : List D := [.tuple [.int 1, .int 3, .int 4, .int 2, .int 0, .int 5], .tuple [.int 1, .int 3, .int 4, .int 2, .int 5, .int 0], .tuple [.int 1, .int 3, .int 4, .int 5, .int 2, .int 0], .tuple [.int 1, .int 3, .int 5, .int 4, .int 2, .int 0], .tuple [.int 1, .int 4, .int 2, .int 0, .int 3, .int 5]]
def c6_9 : List Nat := [228477735648041685273141655770896638807608067148131803652426695907021423456640778017598427173538838626373490257040295356622409756194256261608874892981485993068038, 228477735648041685272951122281861234766236559295035246221721530653713449567461273925982118403302966180282349380296561435702767427753371954231275506082142036035078, 3486293573731104816789881222090097638055543016786678989538576144890453385516729010251618254135950911865180504718539178557226957728985049826412163610995721734, 3486293573731104816789881222090097638055543016786679132880046019089073505163229154365867039070811104689288165873435423185620297161941084384286990981424088582, 228477735648041685273141655770896638807608067188150058000848854455131279680892835798294541869030276454881428820329894111739970325741905533690797802935349464663558]
theorem sp6_9 : ss6_9.map (fun a => PyData.tuple (a.1.map (Pm.dAt 6))) = p6_9 := by kernel_rfl
theorem ch6_9 : chainP 6 ([1, 3, 2, 5, 4, 0], [5, 3, 3, 1, 1, 1]) ss6_9 = some ([1, 4, 2, 0, 5, 3], [5, 2, 3, 3, 1, 1]) := by kernel_rfl
def ss6_10 : List Pm.St2 := [([1, 4, 2, 3, 0, 5], [5, 2, 3, 2, 2, 1]), ([1, 4, 2, 3, 5, 0], [5, 2, 3, 2, 1, 1]), ([1, 4, 2, 5, 0, 3], [5, 2, 3, 1, 2, 1]), ([1, 4, 2, 5, 3, 0], [5, 2, 3, 1, 1, 1]), ([1, 4, 3, 0, 2, 5], [5, 2, 2, 3, 2, 1]), ([1, 4, 3, 0, 5, 2], [5, 2, 2, 3, 1, 1]), ([1, 4, 3, 2, 0, 5], [5, 2, 2, 2, 2, 1]), ([1, 4, 3, 2, 5, 0], [5, 2, 2, 2, 1, 1]), ([1, 4, 3, 5, 0, 2], [5, 2, 2, 1, 2, 1]), ([1, 4, 3, 5, 2, 0], [5, 2, 2, 1, 1, 1]), ([1, 4, 5, 0, 2, 3], [5, 2, 1, 3, 2, 1]), ([1, 4, 5, 0, 3, 2], [5, 2, 1, 3, 1, 1]), ([1, 4, 5, 2, 0, 3], [5, 2, 1, 2, 2, 1]), ([1, 4, 5, 2, 3, 0], [5, 2, 1, 2, 1, 1]), ([1, 4, 5, 3, 0, 2], [5, 2, 1, 1, 2, 1]), ([1, 4, 5, 3, 2, 0], [5, 2, 1, 1, 1, 1]), ([1, 5, 0, 2, 3, 4], [5, 1, 4, 3, 2, 1]), ([1, 5, 0, 2, 4, 3], [5, 1, 4, 3, 1, 1]), ([1, 5, 0, 3, 2, 4], [5, 1, 4, 2, 2, 1]), ([1, 5, 0, 3, 4, 2], [5, 1, 4, 2, 1, 1])]
def p6_10 : List D := [.tuple [.int 1, .int 4, .int 2, .int 3, .int 0, .int 5], .tuple [.int 1, .int 4, .int 2, .int 3, .int 5, .int 0], .tuple [.int 1, .int 4, .int 2, .int 5, .int 0, .int 3], .tuple [.int 1, .int 4, .int 2, .int 5, .int 3, .int 0], .tuple [.int 1, .int 4, .int 3, .int 0, .int 2, .int 5], .tuple [.int 1, .int 4, .int 3, .int 0, .int 5, .int 2], .tuple [.int 1, .int 4, .int 3, .int 2, .int 0, .int 5], .tuple [.int 1, .int 4, .int 3, .int 2, .int 5, .int 0], .tuple [.int 1, .int 4, .int 3, .int 5, .int 0, .int 2], .tuple [.int 1, .int 4, .int 3, .int 5, .int 2, .int 0], .tuple [.int 1, .int 4, .int 5, .int 0, .int 2, .int 3], .tuple [.int 1, .int 4, .int 5, .int 0, .int 3, .int 2], .tuple [.int 1, .int 4, .int 5, .int 2, .int 0, .int 3], .tuple [.int 1, .int 4, .int 5, .int 2, .int 3, .int 0], .tuple [.int 1, .int 4, .int 5, .int 3, .int 0, .int 2], .tuple [.int 1, .int 4, .int 5, .int 3, .int 2, .int 0], .tuple [.int 1, .int 5, .int 0, .int 2, .int 3, .int 4], .tuple [.int 1, .int 5, .int 0, .int 2, .int 4, .int 3], .tuple [.int 1, .int 5, .int 0, .int 3, .int 2, .int 4], .tuple [.int 1, .int 5, .int 0, .int 3, .int 4, .int 2]]
def f6_10 : List D := [.tuple [.int 1, .int 4, .int 2, .int 3, .int 0, .int 5], .tuple [.int 1, .int 4, .int 2, .int 3, .int 5, .int 0], .tuple [.int 1, .int 4, .int 3, .int 2, .int 0, .int 5], .tuple [.int 1, .int 4, .int 3, .int 2, .int 5, .int 0], .tuple [.int 1, .int 4, .int 3, .int 5, .int 2, .int 0], .tuple [.int 1, .int 4, .int 5, .int 2, .int 0, .int 3], .tuple [.int 1, .int 4, .int 5, .int 2, .int 3, .int 0], .tuple [.int 1, .int 4, .int 5, .int 3, .int 2, .int 0]]
def c6_10 : List Nat := [14973516883430059886048100361203508537950771481231112155529326994157323170622250210934114892658521626997996976313792885225020609828684925370039252088609116098333640198, 14973516883430059886048100170670019502546730109723219041328177968585568849778676333575278247573929577483047264525750285568449091688441996863800362369666717723583186438, 14973516883430059886060611552601482120895402288660352323066143592674097388687236178560238397510424067479041885236705396413801510095146220616372963566182333844048709126, 14973516883430059886048124749864057881640079149959430512634894404364173559402046965872669261434763411821756200624380238000356574399246772841539222179455976748234442246, 228477735648041685273141655770896638807608067148132404879327886008327860941408221261907792405357694358508893462103343545075008785127293720838893316790956352472582, 228477735648041685273141655770896638807608067187534411075722363026956493666478885674460652487894998329975535933219684423258534977170277018587517341932476738962950, 228477735648041685272950750140434395415508598041246208799475126154569930966739437820190307417311654775734531460797676346934108161784824122663932338946215730611718, 3486293573731104816789881222090097638055543016796082333444185460143279607537404603609505970512081858971013401775838124882534917840483105149142490135746971142]
theorem sp6_10 : ss6_10.map (fun a => PyData.tuple (a.1.map (Pm.dAt 6))) = p6_10 := by kernel_rfl
theorem ch6_10 : chainP 6 ([1, 4, 2, 0, 5, 3], [5, 2, 3, 3, 1, 1]) ss6_10 = some ([1, 5, 0, 3, 4, 2], [5, 1, 4, 2, 1, 1]) := by kernel_rfl
def ss6_11 : List Pm.St2 := [([1, 5, 0, 4, 2, 3], [5, 1, 4, 1, 2, 1]), ([1, 5, 0, 4, 3, 2], [5, 1, 4, 1, 1, 1]), ([1, 5, 2, 0, 3, 4], [5, 1, 3, 3, 2, 1]), ([1, 5, 2, 0, 4, 3], [5, 1, 3, 3, 1, 1]), ([1, 5, 2, 3, 0, 4], [5, 1, 3, 2, 2, 1]), ([1, 5, 2, 3, 4, 0], [5, 1, 3, 2, 1, 1]), ([1, 5, 2, 4, 0, 3], [5, 1, 3, 1, 2, 1]), ([1, 5, 2, 4, 3, 0], [5, 1, 3, 1, 1, 1]), ([1, 5, 3, 0, 2, 4], [5, 1, 2, 3, 2, 1]), ([1, 5, 3, 0, 4, 2], [5, 1, 2, 3, 1, 1]), ([1, 5, 3, 2, 0, 4], [5, 1, 2, 2, 2, 1]), ([1, 5, 3, 2, 4, 0], [5, 1, 2, 2, 1, 1]), ([1, 5, 3, 4, 0, 2], [5, 1, 2, 1, 2, 1]), ([1, 5, 3, 4, 2, 0], [5, 1, 2, 1, 1, 1]), ([1, 5, 4, 0, 2, 3], [5, 1, 1, 3, 2, 1]), ([1, 5, 4, 0, 3, 2], [5, 1, 1, 3, 1, 1]), ([1, 5, 4, 2, 0, 3], [5, 1, 1, 2, 2, 1]), ([1, 5, 4, 2, 3, 0], [5, 1, 1, 2, 1, 1]), ([1, 5, 4, 3, 0, 2], [5, 1, 1, 1, 2, 1]), ([1, 5, 4, 3, 2, 0], [5, 1, 1, 1, 1, 1])]
def p6_11 : List D := [.tuple [.int 1, .int 5, .int 0, .int 4, .int 2, .int 3], .tuple [.int 1, .int 5, .int 0, .int 4, .int 3, .int 2], .tuple [.int 1, .int 5, .int 2, .int 0, .int 3, .int 4], .tuple [.int 1, .int 5, .int 2, .int 0, .int 4, .int 3], .tuple [.int 1, .int 5, .int 2, .int 3, .int 0, .int 4], .tuple [.int 1, .int 5, .int 2, .int 3, .int 4, .int 0], .tuple [.int 1, .int 5, .int 2, .int 4, .int 0, .int 3], .tuple [.int 1, .int 5, .int 2, .int 4, .int 3, .int 0], .tuple [.int 1, .int 5, .int 3, .int 0, .int 2, .int 4], .tuple [.int 1, .int 5, .int 3, .int 0, .int 4, .int 2], .tuple [.int 1, .int 5, .int 3, .int 2, .int 0, .int 4], .tuple [.int 1, .int 5, .int 3, .int 2, .int 4, .int 0], .tuple [.int 1, .int 5, .int 3, .int 4, .int 0, .int 2], .tuple [.int 1, .int 5, .int 3, .int 4, .int 2, .int 0], .tuple [.int 1, .int 5, .int 4, .int 0, .int 2, .int 3], .tuple [.int 1, .int 5, .int 4, .int 0, .int 3, .int 2], .tuple [.int 1, .int 5, .int 4, .int 2, .int 0, .int 3], .tuple [.int 1, .int 5, .int 4, .int 2, .int 3, .int 0], .tuple [.int 1, .int 5, .int 4, .int 3, .int 0, .int 2], .tuple [.int 1, .int 5, .int 4, .int 3, .int 2, .int 0]]
def f6_11 : List D := [.tuple [.int 1, .int 5, .int 2, .int 0, .int 3, .int 4], .tuple [.int 1, .int 5, .int 2, .int 0, .int 4, .int 3], .tuple [.int 1, .int 5, .int 2, .int 3, .int 0, .int 4], .tuple [.int 1, .int 5, .int 2, .int 3, .int 4, .int 0], .tuple [.int 1, .int 5, .int 2, .int 4, .int 3, .int 0], .tuple [.int 1, .int 5, .int 3, .int 2, .int 0, .int 4], .tuple [.int 1, .int 5, .int 3, .int 2, .int 4, .int 0], .tuple [.int 1, .int 5, .int 3, .int 4, .int 2, .int 0], .tuple [.int 1, .int 5, .int 4, .int 2, .int 0, .int 3], .tuple [.int 1, .int 5, .int 4, .int 2, .int 3, .int 0], .tuple [.int 1, .int 5, .int 4, .int 3, .int 2, .int 0]]
def c6_11 : List Nat := [228477735648041685273141655770896638807608067227552064197243331475895997219619075466809167126109426816257946795844377415222066382898764976443348024569581762119174, 228477735648041685273141655770896638807608067188150058010166611992189298635462256511855884029103899916806357876809010528412866080040539121320243431245761751680518, 14973516883430059886048100361203508537950771481231151557535523388634343935339788937173754228574835515931835540032644055338306413185605868018474515323209517504970229254, 14973516883430059886048100170483948789127054745742592147110075708981137934342575167509004515785719188577955277801151311878880827705719524185750790363551409841520379398, 228477735648041685272950750140434395415508598041246218193501835814130557688006664739300526044302759730779379497944808426470761916548715657043679456285804208719366, 14973516883430059886060611552601482120895402288660352323066143592674097397030935537595880036119684010516094133098090332846040503878856252164435898733449085974965782022, 14973516883430059886048112555533783209795425315595251633079012573902678774358616237039316166135591527665214822477289084829936637972356223396585620349348931587505784326, 228477735648041685273141655770896638807608067148131803652426695907021521234377385860521002878531406747215013281824103018850047076088715371276861968954009588205062, 228477735648041685273141655770896638807608067188150058000848854455131377458629443640753963379322073458477421178146262532953636558452639814035358309006157199836678, 228477735648041685272950750140434395415508598041246218193501693636433764201660582695647097365093626096952805875253483616472921677730572463921962892191219946227206, 3486293573731104816789881222090097638055543016796082333444185460143279607567758340984638407562710984715041166073053409219736481935882233107020611003206731270]
theorem sp6_11 : ss6_11.map (fun a => PyData.tuple (a.1.map (Pm.dAt 6))) = p6_11 := by kernel_rfl
theorem ch6_11 : chainP 6 ([1, 5, 0, 3, 4, 2], [5, 1, 4, 2, 1, 1]) ss6_11 = some ([1, 5, 4, 3, 2, 0], [5, 1, 1, 1, 1, 1]) := by kernel_rfl
def ss6_12 : List Pm.St2 := [([2, 0, 1, 3, 4, 5], [4, 5, 4, 3, 2, 1]), ([2, 0, 1, 3, 5, 4], [4, 5, 4, 3, 1, 1]), ([2, 0, 1, 4, 3, 5], [4, 5, 4, 2, 2, 1]), ([2, 0, 1, 4, 5, 3], [4, 5, 4, 2, 1, 1]), ([2, 0, 1, 5, 3, 4], [4, 5, 4, 1, 2, 1]), ([2, 0, 1, 5, 4, 3], [4, 5, 4, 1, 1, 1]), ([2, 0, 3, 1, 4, 5], [4, 5, 3, 3, 2, 1]), ([2, 0, 3, 1, 5, 4], [4, 5, 3, 3, 1, 1]), ([2, 0, 3, 4, 1, 5], [4, 5, 3, 2, 2, 1]), ([2, 0, 3, 4, 5, 1], [4, 5, 3, 2, 1, 1]), ([2, 0, 3, 5, 1, 4], [4, 5, 3, 1, 2, 1]), ([2, 0, 3, 5, 4, 1], [4, 5, 3, 1, 1, 1]), ([2, 0, 4, 1, 3, 5], [4, 5, 2, 3, 2, 1]), ([2, 0, 4, 1, 5, 3], [4, 5, 2, 3, 1, 1]), ([2, 0, 4, 3, 1, 5], [4, 5, 2, 2, 2, 1]), ([2, 0, 4, 3, 5, 1], [4, 5, 2, 2, 1, 1]), ([2, 0, 4, 5, 1, 3], [4, 5, 2, 1, 2, 1]), ([2, 0, 4, 5, 3, 1], [4, 5, 2, 1, 1, 1]), ([2, 0, 5, 1, 3, 4], [4, 5, 1, 3, 2, 1]), ([2, 0, 5, 1, 4, 3], [4, 5, 1, 3, 1, 1])]
def p6_12 : List D := [.tuple [.int 2, .int 0, .int 1, .int 3, .int 4, .int 5], .tuple [.int 2, .int 0, .int 1, .int 3, .int 5, .int 4], .tuple [.int 2, .int 0, .int 1, .int 4, .int 3, .int 5], .tuple [.int 2, .int 0, .int 1, .int 4, .int 5, .int 3], .tuple [.int 2, .int 0, .int 1, .int 5, .int 3, .int 4], .tuple [.int 2, .int 0, .int 1, .int 5, .int 4, .int 3], .tuple [.int 2, .int 0, .int 3, .int 1, .int 4, .int 5], .tuple [.int 2, .int 0, .int 3, .int 1, .int 5, .int 4], .tuple [.int 2, .int 0, .int 3, .int 4, .int 1, .int 5], .tuple [.int 2, .int 0, .int 3, .int 4, .int 5, .int 1], .tuple [.int 2, .int 0, .int 3, .int 5, .int 1, .int 4], .tuple [.int 2, .int 0, .int 3, .int 5, .int 4, .int 1], .tuple [.int 2, .int 0, .int 4, .int 1, .int 3, .int 5], .tuple [.int 2, .int 0, .int 4, .int 1, .int 5, .int 3], .tuple [.int 2, .int 0, .int 4, .int 3, .int 1, .int 5], .tuple [.int 2, .int 0, .int 4, .int 3, .int 5, .int 1], .tuple [.int 2, .int 0, .int 4, .int 5, .int 1, .int 3], .tuple [.int 2, .int 0, .int 4, .int 5, .int 3, .int 1], .tuple [.int 2, .int 0, .int 5, .int 1, .int 3, .int 4], .tuple [.int 2, .int 0, .int 5, .int 1, .int 4, .int 3]]
def f6_12 : List D := [.tuple [.int 2, .int 0, .int 1, .int 3, .int 4, .int 5], .tuple [.int 2, .int 0, .int 1, .int 3, .int 5, .int 4], .tuple [.int 2, .int 0, .int 1, .int 4, .int 3, .int 5], .tuple [.int 2, .int 0, .int 1, .int 4, .int 5, .int 3], .tuple [.int 2, .int 0, .int 1, .int 5, .int 3, .int 4], .tuple [.int 2, .int 0, .int 1, .int 5, .int 4, .int 3]]
def c6_12 : List Nat := [811715976738165412613157421587653671933720244259861886279233480053185662054150023281244653859051457736196485512024494818144373452035468878126908934, 53196618251512408481015884781168471044310032233798278708674131689918281646707601410630352077906666619981256605091091653425662665279652229134309053040134, 3486293573731117202211857025018656918359902271872977092121582541704664710060718944503368253874558573128859548227754604230953434604378835508350963901614392838, 3486293573731117202211857025018656918359902271863583065411925150635204451354886677432794911900167598323901523007142530548097264493227653328962852769814152710, 3486293573731117202211857025018656918359902272474203993309492333721810325434210458120689209617927857240418106796485724816354734882553085828339955380672398854, 3486293573731117202211857025018656918359902271872977092121582541802442446638118739129837547265317417918160864648183587764261512059032587497798830197184005638]
theorem sp6_12 : ss6_12.map (fun a => PyData.tuple (a.1.map (Pm.dAt 6))) = p6_12 := by kernel_rfl
theorem ch6_12 : chainP 6 ([1, 5, 4, 3, 2, 0], [5, 1, 1, 1, 1, 1]) ss6_12 = some ([2, 0, 5, 1, 4, 3], [4, 5, 1, 3, 1, 1]) := by kernel_rfl
def ss6_13 : List Pm.St2 := [([2, 0, 5, 3, 1, 4], [4, 5, 1, 2, 2, 1]), ([2, 0, 5, 3, 4, 1], [4, 5, 1, 2, 1, 1]), ([2, 0, 5, 4, 1, 3], [4, 5, 1, 1, 2, 1]), ([2, 0, 5, 4, 3, 1], [4, 5, 1, 1, 1, 1]), ([2, 1, 0, 3, 4, 5], [4, 4, 4, 3, 2, 1]), ([2, 1, 0, 3, 5, 4], [4, 4, 4, 3, 1, 1]), ([2, 1, 0, 4, 3, 5], [4, 4, 4, 2, 2, 1]), ([2, 1, 0, 4, 5, 3], [4, 4, 4, 2, 1, 1]), ([2, 1, 0, 5, 3, 4], [4, 4, 4, 1, 2, 1]), ([2, 1, 0, 5, 4, 3], [4, 4, 4, 1, 1, 1]), ([2, 1, 3, 0, 4, 5], [4, 4, 3, 3, 2, 1]), ([2, 1, 3, 0, 5, 4], [4, 4, 3, 3, 1, 1]), ([2, 1, 3, 4, 0, 5], [4, 4, 3, 2, 2, 1]), ([2, 1, 3, 4, 5, 0], [4, 4, 3, 2, 1, 1]), ([2, 1, 3, 5, 0, 4], [4, 4, 3, 1, 2, 1]), ([2, 1, 3, 5, 4, 0], [4, 4, 3, 1, 1, 1]), ([2, 1, 4, 0, 3, 5], [4, 4, 2, 3, 2, 1]), ([2, 1, 4, 0, 5, 3], [4, 4, 2, 3, 1, 1]), ([2, 1, 4, 3, 0, 5], [4, 4, 2, 2, 2, 1]), ([2, 1, 4, 3, 5, 0], [4, 4, 2, 2, 1, 1])]
def p6_13 : List D := [.tuple [.int 2, .int 0, .int 5, .int 3, .int 1, .int 4], .tuple [.int 2, .int 0, .int 5, .int 3, .int 4, .int 1], .tuple [.int 2, .int 0, .int 5, .int 4, .int 1, .int 3], .tuple [.int 2, .int 0, .int 5, .int 4, .int 3, .int 1], .tuple [.int 2, .int 1, .int 0, .int 3, .int 4, .int 5], .tuple [.int 2, .int 1, .int 0, .int 3, .int 5, .int 4], .tuple [.int 2, .int 1, .int 0, .int 4, .int 3, .int 5], .tuple [.int 2, .int 1, .int 0, .int 4, .int 5, .int 3], .tuple [.int 2, .int 1, .int 0, .int 5, .int 3, .int 4], .tuple [.int 2, .int 1, .int 0, .int 5, .int 4, .int 3], .tuple [.int 2, .int 1, .int 3, .int 0, .int 4, .int 5], .tuple [.int 2, .int 1, .int 3, .int 0, .int 5, .int 4], .tuple [.int 2, .int 1, .int 3, .int 4, .int 0, .int 5], .tuple [.int 2, .int 1, .int 3, .int 4, .int 5, .int 0], .tuple [.int 2, .int 1, .int 3, .int 5, .int 0, .int 4], .tuple [.int 2, .int 1, .int 3, .int 5, .int 4, .int 0], .tuple [.int 2, .int 1, .int 4, .int 0, .int 3, .int 5], .tuple [.int 2, .int 1, .int 4, .int 0, .int 5, .int 3], .tuple [.int 2, .int 1, .int 4, .int 3, .int 0, .int 5], .tuple [.int 2, .int 1, .int 4, .int 3, .int 5, .int 0]]
def f6_13 : List D := [.tuple [.int 2, .int 1, .int 0, .int 3, .int 4, .int 5], .tuple [.int 2, .int 1, .int 0, .int 3, .int 5, .int 4], .tuple [.int 2, .int 1, .int 0, .int 4, .int 3, .int 5], .tuple [.int 2, .int 1, .int 0, .int 4, .int 5, .int 3], .tuple [.int 2, .int 1, .int 0, .int 5, .int 3, .int 4], .tuple [.int 2, .int 1, .int 0, .int 5, .int 4, .int 3], .tuple [.int 2, .int 1, .int 3, .int 0, .int 4, .int 5], .tuple [.int 2, .int 1, .int 3, .int 0, .int 5, .int 4], .tuple [.int 2, .int 1, .int 3, .int 4, .int 0, .int 5], .tuple [.int 2, .int 1, .int 3, .int 4, .int 5, .int 0], .tuple [.int 2, .int 1, .int 3, .int 5, .int 4, .int 0], .tuple [.int 2, .int 1, .int 4, .int 3, .int 0, .int 5], .tuple [.int 2, .int 1, .int 4, .int 3, .int 5, .int 0]]
def c6_13 : List Nat := [811715976738162573399390652252632449731518982919874583230731583510516392332717466183439024853955885288541533781321149663790957144539674416244983302, 53196618251512222410302465786028520225604828064636900686609322834681810160483686433254021049160432240252119678752424009754348274712169302794683887781382, 3486293573731105007881582397753165101505238012044043923397628581293579795928908325934498992676224066989934974387703952643147765417136527147821686071543334406, 3486293573731105007881582397753165101505238012044043923397628581293577806666375709255125147886943005259598770971783544681007077406482046082276641094437832198, 3486293573731105007881582397753165101505238012044043923397628581293707110677428767243681873229554106412907118636069514047044179949143484473005129226554574342, 3486293573731105007881582397753165101505238012044043923397628581293579795928908325934519697917327772238724327137091426278591998665891202161112482180862707206, 53196618251512219497313719719082229645327299667574838148630253534784477239940879615212445793133104554126001011005206321222616843527123861464329753069062, 3486293573731104816975951935509773002036169911014184592908632295753413237004578303109221484603399511315707041675990444861793939119186541814316402761965897222, 3486293573731104816973041785977472835460005841781912093363806635595678524507830735325806841088941356990347192497288204221877055350889135476577680932492150278, 3486293573731104816973041741615437945729371354662452008098654244339862661595979954659036359246043390762003140883787039610550353960807331460099220752271017478, 3486293573731104816973041785977472835460005841781912093363806635595680016477688642173552687753101700208621081073566491502502629948604814457107049431714629126, 228477735648041685285335986045568483461442431288225601480860126134495689773017295122017783978437588819565771281339283237163582764504596862445181549846190472168966, 228477735648041685285145452556533079420070923473914210279851226202586821513303292246084261146325527326445365831079403716252563562078092432089193151459237967562246]
theorem sp6_13 : ss6_13.map (fun a => PyData.tuple (a.1.map (Pm.dAt 6))) = p6_13 := by kernel_rfl
theorem ch6_13 : chainP 6 ([2, 0, 5, 1, 4, 3], [4, 5, 1, 3, 1, 1]) ss6_13 = some ([2, 1, 4, 3, 5, 0], [4, 4, 2, 2, 1, 1]) := by kernel_rfl
def ss6_14 : List Pm.St2 := [([2, 1, 4, 5, 0, 3], [4, 4, 2, 1, 2, 1]), ([2, 1, 4, 5, 3, 0], [4, 4, 2, 1, 1, 1]), ([2, 1, 5, 0, 3, 4], [4, 4, 1, 3, 2, 1]), ([2, 1, 5, 0, 4, 3], [4, 4, 1, 3, 1, 1]), ([2, 1, 5, 3, 0, 4], [4, 4, 1, 2, 2, 1]), ([2, 1, 5, 3, 4, 0], [4, 4, 1, 2, 1, 1]), ([2, 1, 5, 4, 0, 3], [4, 4, 1, 1, 2, 1]), ([2, 1, 5, 4, 3, 0], [4, 4, 1, 1, 1, 1]), ([2, 3, 0, 1, 4, 5], [4, 3, 4, 3, 2, 1]), ([2, 3, 0, 1, 5, 4], [4, 3, 4, 3, 1, 1]), ([2, 3, 0, 4, 1, 5], [4, 3, 4, 2, 2, 1]), ([2, 3, 0, 4, 5, 1], [4, 3, 4, 2, 1, 1]), ([2, 3, 0, 5, 1, 4], [4, 3, 4, 1, 2, 1]), ([2, 3, 0, 5, 4, 1], [4, 3, 4, 1, 1, 1]), ([2, 3, 1, 0, 4, 5], [4, 3, 3, 3, 2, 1]), ([2, 3, 1, 0, 5, 4], [4, 3, 3, 3, 1, 1]), ([2, 3, 1, 4, 0, 5], [4, 3, 3, 2, 2, 1]), ([2, 3, 1, 4, 5, 0], [4, 3, 3, 2, 1, 1]), ([2, 3, 1, 5, 0, 4], [4, 3, 3, 1, 2, 1]), ([2, 3, 1, 5, 4, 0], [4, 3, 3, 1, 1, 1])]
def p6_14 : List D := [.tuple [.int 2, .int 1, .int 4, .int 5, .int 0, .int 3], .tuple [.int 2, .int 1, .int 4, .int 5, .int 3, .int 0], .tuple [.int 2, .int 1, .int 5, .int 0, .int 3, .int 4], .tuple [.int 2, .int 1, .int 5, .int 0, .int 4, .int 3], .tuple [.int 2, .int 1, .int 5, .int 3, .int 0, .int 4], .tuple [.int 2, .int 1, .int 5, .int 3, .int 4, .int 0], .tuple [.int 2, .int 1, .int 5, .int 4, .int 0, .int 3], .tuple [.int 2, .int 1, .int 5, .int 4, .int 3, .int 0], .tuple [.int 2, .int 3, .int 0, .int 1, .int 4, .int 5], .tuple [.int 2, .int 3, .int 0, .int 1, .int 5, .int 4], .tuple [.int 2, .int 3, .int 0, .int 4, .int 1, .int 5], .tuple [.int 2, .int 3, .int 0, .int 4, .int 5, .int 1], .tuple [.int 2, .int 3, .int 0, .int 5, .int 1, .int 4], .tuple [.int 2, .int 3, .int 0, .int 5, .int 4, .int 1], .tuple [.int 2, .int 3, .int 1, .int 0, .int 4, .int 5], .tuple [.int 2, .int 3, .int 1, .int 0, .int 5, .int 4], .tuple [.int 2, .int 3, .int 1, .int 4, .int 0, .int 5], .tuple [.int 2, .int 3, .int 1, .int 4, .int 5, .int 0], .tuple [.int 2, .int 3, .int 1, .int 5, .int 0, .int 4], .tuple [.int 2, .int 3, .int 1, .int 5, .int 4, .int 0]]
def f6_14 : List D := [.tuple [.int 2, .int 1, .int 4, .int 5, .int 3, .int 0], .tuple [.int 2, .int 1, .int 5, .int 3, .int 0, .int 4], .tuple [.int 2, .int 1, .int 5, .int 3, .int 4, .int 0], .tuple [.int 2, .int 1, .int 5, .int 4, .int 3, .int 0], .tuple [.int 2, .int 3, .int 0, .int 1, .int 4, .int 5], .tuple [.int 2, .int 3, .int 0, .int 1, .int 5, .int 4], .tuple [.int 2, .int 3, .int 1, .int 0, .int 4, .int 5], .tuple [.int 2, .int 3, .int 1, .int 0, .int 5, .int 4], .tuple [.int 2, .int 3, .int 1, .int 4, .int 0, .int 5], .tuple [.int 2, .int 3, .int 1, .int 4, .int 5, .int 0], .tuple [.int 2, .int 3, .int 1, .int 5, .int 4, .int 0]]
def c6_14 : List Nat := [3486293573731104816975951935509773002036169911014184592908632295753413235031555673056047128365978996864284725175788094908107324678254227070670397470941775366, 228477735648041685285335986045568483461442431288225601480860126134495689900332043642459093161318142149592640051513697519871179092568770797846653237572389174642182, 228477735648041685285145266485819659744706942847019390950690431670398485559881802853485489550574003215170113576435520581093987810954912506583341534863636811875846, 3486293573731104816975951935509773002036169911014184592908632295753413235061909410431179565416608122608313990412282052763714933673783116769056359259765605894, 53196618251512405568027139394435830877236025073434454955802726424919615797726108494096953519790467289668265598398545792131492084562643189774042211419654, 3486293573731117011306226607353746612370540600954906423953616957269873093625876572642309967886851984124103892175275779689032665418740358815288113494319564294, 53196618251512222410302465786028520225604818652262482065118381657484459281035343912901585260789134051869825744401095204414104636443959474456052025918982, 3486293573731105007881582397753165101505237395194674024619598260402679260049804864938174899123614340760801538281689142679170326009934863409667822966060484102, 3486293573731104817162022648929448366016796805824101379284542993148189463085760347120964419588109335483938798602974703536450873643002737793641888962744550918, 3486293573731104817159115338610914979155048944897365673054615311826796324068473296183912530123767465790392431503452017458161876068373135971286013586786616838, 3486293573731104817162022648929448366016796805824101379284542993148190955055618253968710266252269678702212688640732327737735926526984846402880553638479398406]
theorem sp6_14 : ss6_14.map (fun a => PyData.tuple (a.1.map (Pm.dAt 6))) = p6_14 := by kernel_rfl
theorem ch6_14 : chainP 6 ([2, 1, 4, 3, 5, 0], [4, 4, 2, 2, 1, 1]) ss6_14 = some ([2, 3, 1, 5, 4, 0], [4, 3, 3, 1, 1, 1]) := by kernel_rfl
def ss6_15 : List Pm.St2 := [([2, 3, 4, 0, 1, 5], [4, 3, 2, 3, 2, 1]), ([2, 3, 4, 0, 5, 1], [4, 3, 2, 3, 1, 1]), ([2, 3, 4, 1, 0, 5], [4, 3, 2, 2, 2, 1]), ([2, 3, 4, 1, 5, 0], [4, 3, 2, 2, 1, 1]), ([2, 3, 4, 5, 0, 1], [4, 3, 2, 1, 2, 1]), ([2, 3, 4, 5, 1, 0], [4, 3, 2, 1, 1, 1]), ([2, 3, 5, 0, 1, 4], [4, 3, 1, 3, 2, 1]), ([2, 3, 5, 0, 4, 1], [4, 3, 1, 3, 1, 1]), ([2, 3, 5, 1, 0, 4], [4, 3, 1, 2, 2, 1]), ([2, 3, 5, 1, 4, 0], [4, 3, 1, 2, 1, 1]), ([2, 3, 5, 4, 0, 1], [4, 3, 1, 1, 2, 1]), ([2, 3, 5, 4, 1, 0], [4, 3, 1, 1, 1, 1]), ([2, 4, 0, 1, 3, 5], [4, 2, 4, 3, 2, 1]), ([2, 4, 0, 1, 5, 3], [4, 2, 4, 3, 1, 1]), ([2, 4, 0, 3, 1, 5], [4, 2, 4, 2, 2, 1]), ([2, 4, 0, 3, 5, 1], [4, 2, 4, 2, 1, 1]), ([2, 4, 0, 5, 1, 3], [4, 2, 4, 1, 2, 1]), ([2, 4, 0, 5, 3, 1], [4, 2, 4, 1, 1, 1]), ([2, 4, 1, 0, 3, 5], [4, 2, 3, 3, 2, 1]), ([2, 4, 1, 0, 5, 3], [4, 2, 3, 3, 1, 1])]
def p6_15 : List D := [.tuple [.int 2, .int 3, .int 4, .int 0, .int 1, .int 5], .tuple [.int 2, .int 3, .int 4, .int 0, .int 5, .int 1], .tuple [.int 2, .int 3, .int 4, .int 1, .int 0, .int 5], .tuple [.int 2, .int 3, .int 4, .int 1, .int 5, .int 0], .tuple [.int 2, .int 3, .int 4, .int 5, .int 0, .int 1], .tuple [.int 2, .int 3, .int 4, .int 5, .int 1, .int 0], .tuple [.int 2, .int 3, .int 5, .int 0, .int 1, .int 4], .tuple [.int 2, .int 3, .int 5, .int 0, .int 4, .int 1], .tuple [.int 2, .int 3, .int 5, .int 1, .int 0, .int 4], .tuple [.int 2, .int 3, .int 5, .int 1, .int 4, .int 0], .tuple [.int 2, .int 3, .int 5, .int 4, .int 0, .int 1], .tuple [.int 2, .int 3, .int 5, .int 4, .int 1, .int 0], .tuple [.int 2, .int 4, .int 0, .int 1, .int 3, .int 5], .tuple [.int 2, .int 4, .int 0, .int 1, .int 5, .int 3], .tuple [.int 2, .int 4, .int 0, .int 3, .int 1, .int 5], .tuple [.int 2, .int 4, .int 0, .int 3, .int 5, .int 1], .tuple [.int 2, .int 4, .int 0, .int 5, .int 1, .int 3], .tuple [.int 2, .int 4, .int 0, .int 5, .int 3, .int 1], .tuple [.int 2, .int 4, .int 1, .int 0, .int 3, .int 5], .tuple [.int 2, .int 4, .int 1, .int 0, .int 5, .int 3]]
def f6_15 : List D := [.tuple [.int 2, .int 3, .int 4, .int 0, .int 1, .int 5], .tuple [.int 2, .int 3, .int 4, .int 1, .int 0, .int 5], .tuple [.int 2, .int 3, .int 4, .int 1, .int 5, .int 0], .tuple [.int 2, .int 3, .int 4, .int 5, .int 0, .int 1], .tuple [.int 2, .int 3, .int 4, .int 5, .int 1, .int 0], .tuple [.int 2, .int 3, .int 5, .int 4, .int 0, .int 1], .tuple [.int 2, .int 3, .int 5, .int 4, .int 1, .int 0]]
def c6_15 : List Nat := [3486293573731117011303316457822126659444789735243870622647576404776173279796200565720490885606861458387243264402697119103780934042067858698444776379727087110, 3486293573731105007881582397753165101505237395185270824195440729747548505982506624943424634694131040088939798627748520363550930770837067688990395119656371718, 3486293573731104817348093362349123729997423700643430396597623396853854840970070075943514228379667492402343334352711503186385783932221394941045278536200750598, 3486293573731117011303316413460091780093391857219644661263683304819580021228752332616456912182651214803205785984190273991018230869146299263634111957362411014, 53196618251512222410302465786028520225604818652118998426116531242422076776040573228983433709233774891903618305109588334329288741176925536872994483602950, 3486293573731117011303316457822126659444789735250916251095818136488183264249824621175903496373055997041414813175455292128058284537503080367318284231491585542, 53196618251512222410302465786028520225604818652119000613333751369438934294927437334521228168875294691476250739877300700590607801832770711019168538691078]
theorem sp6_15 : ss6_15.map (fun a => PyData.tuple (a.1.map (Pm.dAt 6))) = p6_15 := by kernel_rfl
theorem ch6_15 : chainP 6 ([2, 3, 1, 5, 4, 0], [4, 3, 3, 1, 1, 1]) ss6_15 = some ([2, 4, 1, 0, 5, 3], [4, 2, 3, 3, 1, 1]) := by kernel_rfl
def ss6_16 : List Pm.St2 := [([2, 4, 1, 3, 0, 5], [4, 2, 3, 2, 2, 1]), ([2, 4, 1, 3, 5, 0], [4, 2, 3, 2, 1, 1]), ([2, 4, 1, 5, 0, 3], [4, 2, 3, 1, 2, 1]), ([2, 4, 1, 5, 3, 0], [4, 2, 3, 1, 1, 1]), ([2, 4, 3, 0, 1, 5], [4, 2, 2, 3, 2, 1]), ([2, 4, 3, 0, 5, 1], [4, 2, 2, 3, 1, 1]), ([2, 4, 3, 1, 0, 5], [4, 2, 2, 2, 2, 1]), ([2, 4, 3, 1, 5, 0], [4, 2, 2, 2, 1, 1]), ([2, 4, 3, 5, 0, 1], [4, 2, 2, 1, 2, 1]), ([2, 4, 3, 5, 1, 0], [4, 2, 2, 1, 1, 1]), ([2, 4, 5, 0, 1, 3], [4, 2, 1, 3, 2, 1]), ([2, 4, 5, 0, 3, 1], [4, 2, 1, 3, 1, 1]), ([2, 4, 5, 1, 0, 3], [4, 2, 1, 2, 2, 1]), ([2, 4, 5, 1, 3, 0], [4, 2, 1, 2, 1, 1]), ([2, 4, 5, 3, 0, 1], [4, 2, 1, 1, 2, 1]), ([2, 4, 5, 3, 1, 0], [4, 2, 1, 1, 1, 1]), ([2, 5, 0, 1, 3, 4], [4, 1, 4, 3, 2, 1]), ([2, 5, 0, 1, 4, 3], [4, 1, 4, 3, 1, 1]), ([2, 5, 0, 3, 1, 4], [4, 1, 4, 2, 2, 1]), ([2, 5, 0, 3, 4, 1], [4, 1, 4, 2, 1, 1])]
def p6_16 : List D := [.tuple [.int 2, .int 4, .int 1, .int 3, .int 0, .int 5], .tuple [.int 2, .int 4, .int 1, .int 3, .int 5, .int 0], .tuple [.int 2, .int 4, .int 1, .int 5, .int 0, .int 3], .tuple [.int 2, .int 4, .int 1, .int 5, .int 3, .int 0], .tuple [.int 2, .int 4, .int 3, .int 0, .int 1, .int 5], .tuple [.int 2, .int 4, .int 3, .int 0, .int 5, .int 1], .tuple [.int 2, .int 4, .int 3, .int 1, .int 0, .int 5], .tuple [.int 2, .int 4, .int 3, .int 1, .int 5, .int 0], .tuple [.int 2, .int 4, .int 3, .int 5, .int 0, .int 1], .tuple [.int 2, .int 4, .int 3, .int 5, .int 1, .int 0], .tuple [.int 2, .int 4, .int 5, .int 0, .int 1, .int 3], .tuple [.int 2, .int 4, .int 5, .int 0, .int 3, .int 1], .tuple [.int 2, .int 4, .int 5, .int 1, .int 0, .int 3], .tuple [.int 2, .int 4, .int 5, .int 1, .int 3, .int 0], .tuple [.int 2, .int 4, .int 5, .int 3, .int 0, .int 1], .tuple [.int 2, .int 4, .int 5, .int 3, .int 1, .int 0], .tuple [.int 2, .int 5, .int 0, .int 1, .int 3, .int 4], .tuple [.int 2, .int 5, .int 0, .int 1, .int 4, .int 3], .tuple [.int 2, .int 5, .int 0, .int 3, .int 1, .int 4], .tuple [.int 2, .int 5, .int 0, .int 3, .int 4, .int 1]]
def f6_16 : List D := [.tuple [.int 2, .int 4, .int 3, .int 0, .int 1, .int 5], .tuple [.int 2, .int 4, .int 3, .int 1, .int 0, .int 5], .tuple [.int 2, .int 4, .int 3, .int 1, .int 5, .int 0], .tuple [.int 2, .int 4, .int 3, .int 5, .int 0, .int 1], .tuple [.int 2, .int 4, .int 3, .int 5, .int 1, .int 0], .tuple [.int 2, .int 4, .int 5, .int 3, .int 0, .int 1], .tuple [.int 2, .int 4, .int 5, .int 3, .int 1, .int 0]]
def c6_16 : List Nat := [228477735648042484452964866939535137988315748824180146173322910826285677244069509154264882352932828498826794444016213682870858186859035808893088369755616874726918, 228477735648041697796527384019151428092247237931478156877469991593749987859309263078040074952434387882079582383389884320063627748954271850243057074092630121776646, 228477735648041685309724646594912172769111159645367863874622271093744885988566637096737326321953952388727959633285950428983884657896564664258544952199065159206406, 228477735648042484452774333450544312428737720716298866751802337458981641276935744771271632312606542780698703683868612620533349804438822199583099908306691869246982, 3486293573731105007881582397753165101505237395185279998189904690033596441235916098728094740842992761289132859983683263135509531394857019556113998676220052998, 3486293573731117011306226607353746612370540600954897106617678850843728756466839650299038876031354585385925132583464792930161225300299296851974941135050507782, 53196618251512222410302465786028520225604818652262482065118381658976429108837619550857552229098416539149010698128078605943981318873811171842825944172038]
theorem sp6_16 : ss6_16.map (fun a => PyData.tuple (a.1.map (Pm.dAt 6))) = p6_16 := by kernel_rfl
theorem ch6_16 : chainP 6 ([2, 4, 1, 0, 5, 3], [4, 2, 3, 3, 1, 1]) ss6_16 = some ([2, 5, 0, 3, 4, 1], [4, 1, 4, 2, 1, 1]) := by kernel_rfl
def ss6_17 : List Pm.St2 := [([2, 5, 0, 4, 1, 3], [4, 1, 4, 1, 2, 1]), ([2, 5, 0, 4, 3, 1], [4, 1, 4, 1, 1, 1]), ([2, 5, 1, 0, 3, 4], [4, 1, 3, 3, 2, 1]), ([2, 5, 1, 0, 4, 3], [4, 1, 3, 3, 1, 1]), ([2, 5, 1, 3, 0, 4], [4, 1, 3, 2, 2, 1]), ([2, 5, 1, 3, 4, 0], [4, 1, 3, 2, 1, 1]), ([2, 5, 1, 4, 0, 3], [4, 1, 3, 1, 2, 1]), ([2, 5, 1, 4, 3, 0], [4, 1, 3, 1, 1, 1]), ([2, 5, 3, 0, 1, 4], [4, 1, 2, 3, 2, 1]), ([2, 5, 3, 0, 4, 1], [4, 1, 2, 3, 1, 1]), ([2, 5, 3, 1, 0, 4], [4, 1, 2, 2, 2, 1]), ([2, 5, 3, 1, 4, 0], [4, 1, 2, 2, 1, 1]), ([2, 5, 3, 4, 0, 1], [4, 1, 2, 1, 2, 1]), ([2, 5, 3, 4, 1, 0], [4, 1, 2, 1, 1, 1]), ([2, 5, 4, 0, 1, 3], [4, 1, 1, 3, 2, 1]), ([2, 5, 4, 0, 3, 1], [4, 1, 1, 3, 1, 1]), ([2, 5, 4, 1, 0, 3], [4, 1, 1, 2, 2, 1]), ([2, 5, 4, 1, 3, 0], [4, 1, 1, 2, 1, 1]), ([2, 5, 4, 3, 0, 1], [4, 1, 1, 1, 2, 1]), ([2, 5, 4, 3, 1, 0], [4, 1, 1, 1, 1, 1])]
def p6_17 : List D := [.tuple [.int 2, .int 5, .int 0, .int 4, .int 1, .int 3], .tuple [.int 2, .int 5, .int 0, .int 4, .int 3, .int 1], .tuple [.int 2, .int 5, .int 1, .int 0, .int 3, .int 4], .tuple [.int 2, .int 5, .int 1, .int 0, .int 4, .int 3], .tuple [.int 2, .int 5, .int 1, .int 3, .int 0, .int 4], .tuple [.int 2, .int 5, .int 1, .int 3, .int 4, .int 0], .tuple [.int 2, .int 5, .int 1, .int 4, .int 0, .int 3], .tuple [.int 2, .int 5, .int 1, .int 4, .int 3, .int 0], .tuple [.int 2, .int 5, .int 3, .int 0, .int 1, .int 4], .tuple [.int 2, .int 5, .int 3, .int 0, .int 4, .int 1], .tuple [.int 2, .int 5, .int 3, .int 1, .int 0, .int 4], .tuple [.int 2, .int 5, .int 3, .int 1, .int 4, .int 0], .tuple [.int 2, .int 5, .int 3, .int 4, .int 0, .int 1], .tuple [.int 2, .int 5, .int 3, .int 4, .int 1, .int 0], .tuple [.int 2, .int 5, .int 4, .int 0, .int 1, .int 3], .tuple [.int 2, .int 5, .int 4, .int 0, .int 3, .int 1], .tuple [.int 2, .int 5, .int 4, .int 1, .int 0, .int 3], .tuple [.int 2, .int 5, .int 4, .int 1, .int 3, .int 0], .tuple [.int 2, .int 5, .int 4, .int 3, .int 0, .int 1], .tuple [.int 2, .int 5, .int 4, .int 3, .int 1, .int 0]]
def f6_17 : List D := [.tuple [.int 2, .int 5, .int 3, .int 0, .int 1, .int 4], .tuple [.int 2, .int 5, .int 3, .int 1, .int 0, .int 4], .tuple [.int 2, .int 5, .int 3, .int 1, .int 4, .int 0], .tuple [.int 2, .int 5, .int 3, .int 4, .int 0, .int 1], .tuple [.int 2, .int 5, .int 3, .int 4, .int 1, .int 0], .tuple [.int 2, .int 5, .int 4, .int 3, .int 0, .int 1], .tuple [.int 2, .int 5, .int 4, .int 3, .int 1, .int 0]]
def c6_17 : List Nat := [228477735648042484452964866939535137988315748824180747400224098736077694389684882645778499673888571868110905908293288909210327964504180565764974212769146361742854, 228477735648041697796527384019151428092247237931478156877469991593749987986624011598481384135314941212119005261252639180843916021713670439821948111557835562026502, 228477735648041685297530316320240328115276795466488307992791809598959842430524997892092936615095475853726133074177791000173902888630787904830466519486311493404166, 228477735648042484452774147379830892753373740089404047431815537390720151515180184038111506229369332560879301870979108459438243560782603946512956312628731381679622, 3486293573731105007881582397753165101505237395185270824195440729747549997952364533155176199479066253548346770105828078124881521732901877545561785887244027398, 3486293573731117011306226607353746612370540600954897249959150860996792221402070412507011548190707691309686029831690660178155507872511509873089166042980550150, 53196618251512222410302465786028520225604818652262482065118381658976429109300780826723220519055526001794457221045083995237591150558938541096267571136006]
theorem sp6_17 : ss6_17.map (fun a => PyData.tuple (a.1.map (Pm.dAt 6))) = p6_17 := by kernel_rfl
theorem ch6_17 : chainP 6 ([2, 5, 0, 3, 4, 1], [4, 1, 4, 2, 1, 1]) ss6_17 = some ([2, 5, 4, 3, 1, 0], [4, 1, 1, 1, 1, 1]) := by kernel_rfl
def ss6_18 : List Pm.St2 := [([3, 0, 1, 2, 4, 5], [3, 5, 4, 3, 2, 1]), ([3, 0, 1, 2, 5, 4], [3, 5, 4, 3, 1, 1]), ([3, 0, 1, 4, 2, 5], [3, 5, 4, 2, 2, 1]), ([3, 0, 1, 4, 5, 2], [3, 5, 4, 2, 1, 1]), ([3, 0, 1, 5, 2, 4], [3, 5, 4, 1, 2, 1]), ([3, 0, 1, 5, 4, 2], [3, 5, 4, 1, 1, 1]), ([3, 0, 2, 1, 4, 5], [3, 5, 3, 3, 2, 1]), ([3, 0, 2, 1, 5, 4], [3, 5, 3, 3, 1, 1]), ([3, 0, 2, 4, 1, 5], [3, 5, 3, 2, 2, 1]), ([3, 0, 2, 4, 5, 1], [3, 5, 3, 2, 1, 1]), ([3, 0, 2, 5, 1, 4], [3, 5, 3, 1, 2, 1]), ([3, 0, 2, 5, 4, 1], [3, 5, 3, 1, 1, 1]), ([3, 0, 4, 1, 2, 5], [3, 5, 2, 3, 2, 1]), ([3, 0, 4, 1, 5, 2], [3, 5, 2, 3, 1, 1]), ([3, 0, 4, 2, 1, 5], [3, 5, 2, 2, 2, 1]), ([3, 0, 4, 2, 5, 1], [3, 5, 2, 2, 1, 1]), ([3, 0, 4, 5, 1, 2], [3, 5, 2, 1, 2, 1]), ([3, 0, 4, 5, 2, 1], [3, 5, 2, 1, 1, 1]), ([3, 0, 5, 1, 2, 4], [3, 5, 1, 3, 2, 1]), ([3, 0, 5, 1, 4, 2], [3, 5, 1, 3, 1, 1])]
def p6_18 : List D := [.tuple [.int 3, .int 0, .int 1, .int 2, .int 4, .int 5], .tuple [.int 3, .int 0, .int 1, .int 2, .int 5, .int 4], .tuple [.int 3, .int 0, .int 1, .int 4, .int 2, .int 5], .tuple [.int 3, .int 0, .int 1, .int 4, .int 5, .int 2], .tuple [.int 3, .int 0, .int 1, .int 5, .int 2, .int 4], .tuple [.int 3, .int 0, .int 1, .int 5, .int 4, .int 2], .tuple [.int 3, .int 0, .int 2, .int 1, .int 4, .int 5], .tuple [.int 3, .int 0, .int 2, .int 1, .int 5, .int 4], .tuple [.int 3, .int 0, .int 2, .int 4, .int 1, .int 5], .tuple [.int 3, .int 0, .int 2, .int 4, .int 5, .int 1], .tuple [.int 3, .int 0, .int 2, .int 5, .int 1, .int 4], .tuple [.int 3, .int 0, .int 2, .int 5, .int 4, .int 1], .tuple [.int 3, .int 0, .int 4, .int 1, .int 2, .int 5], .tuple [.int 3, .int 0, .int 4, .int 1, .int 5, .int 2], .tuple [.int 3, .int 0, .int 4, .int 2, .int 1, .int 5], .tuple [.int 3, .int 0, .int 4, .int 2, .int 5, .int 1], .tuple [.int 3, .int 0, .int 4, .int 5, .int 1, .int 2], .tuple [.int 3, .int 0, .int 4, .int 5, .int 2, .int 1], .tuple [.int 3, .int 0, .int 5, .int 1, .int 2, .int 4], .tuple [.int 3, .int 0, .int 5, .int 1, .int 4, .int 2]]
def f6_18 : List D := [.tuple [.int 3, .int 0, .int 1, .int 2, .int 4, .int 5], .tuple [.int 3, .int 0, .int 1, .int 2, .int 5, .int 4], .tuple [.int 3, .int 0, .int 2, .int 1, .int 4, .int 5], .tuple [.int 3, .int 0, .int 2, .int 1, .int 5, .int 4], .tuple [.int 3, .int 0, .int 2, .int 4, .int 1, .int 5], .tuple [.int 3, .int 0, .int 2, .int 4, .int 5, .int 1], .tuple [.int 3, .int 0, .int 2, .int 5, .int 4, .int 1]]
def c6_18 : List Nat := [53196618251512594551729304456522082363132343889122590460992050969725973313631916313926131505746377793251881334022973013359713625443881583985521013949958, 3486293573731129396542131696862631189750241750859844072421704530638302539788279129856740315391299704077616507492379701839527196606686774028914837976902927878, 3486293573731117202211859908811585715583872501902237392958526859883863150159139676297811089032809496403955975814791647399002608827884772847819110575067497990, 228477735648042496964156450983876081456504668284665029784930016295756817153165850766958614977105443948141006244395014334712031102226489928267893829865732489741830, 228477735648042484465159197217090775570947336973289731315454209265388900000553189448533285150532696203345015161255557109329099736507002352101796021052077546800646, 228477735648042484464968663725216201085760085341100819942428885087142910393133599717599084353199542565687858946380497099968865481477836926860193614116911141225990, 228477735648042484465159197217090775570947336973289731315454209265388997778289766848327918714794266199084636306080086153037569086747519776150748527856176605824518]
theorem sp6_18 : ss6_18.map (fun a => PyData.tuple (a.1.map (Pm.dAt 6))) = p6_18 := by kernel_rfl
theorem ch6_18 : chainP 6 ([2, 5, 4, 3, 1, 0], [4, 1, 1, 1, 1, 1]) ss6_18 = some ([3, 0, 5, 1, 4, 2], [3, 5, 1, 3, 1, 1]) := by kernel_rfl
def ss6_19 : List Pm.St2 := [([3, 0, 5, 2, 1, 4], [3, 5, 1, 2, 2, 1]), ([3, 0, 5, 2, 4, 1], [3, 5, 1, 2, 1, 1]), ([3, 0, 5, 4, 1, 2], [3, 5, 1, 1, 2, 1]), ([3, 0, 5, 4, 2, 1], [3, 5, 1, 1, 1, 1]), ([3, 1, 0, 2, 4, 5], [3, 4, 4, 3, 2, 1]), ([3, 1, 0, 2, 5, 4], [3, 4, 4, 3, 1, 1]), ([3, 1, 0, 4, 2, 5], [3, 4, 4, 2, 2, 1]), ([3, 1, 0, 4, 5, 2], [3, 4, 4, 2, 1, 1]), ([3, 1, 0, 5, 2, 4], [3, 4, 4, 1, 2, 1]), ([3, 1, 0, 5, 4, 2], [3, 4, 4, 1, 1, 1]), ([3, 1, 2, 0, 4, 5], [3, 4, 3, 3, 2, 1]), ([3, 1, 2, 0, 5, 4], [3, 4, 3, 3, 1, 1]), ([3, 1, 2, 4, 0, 5], [3, 4, 3, 2, 2, 1]), ([3, 1, 2, 4, 5, 0], [3, 4, 3, 2, 1, 1]), ([3, 1, 2, 5, 0, 4], [3, 4, 3, 1, 2, 1]), ([3, 1, 2, 5, 4, 0], [3, 4, 3, 1, 1, 1]), ([3, 1, 4, 0, 2, 5], [3, 4, 2, 3, 2, 1]), ([3, 1, 4, 0, 5, 2], [3, 4, 2, 3, 1, 1]), ([3, 1, 4, 2, 0, 5], [3, 4, 2, 2, 2, 1]), ([3, 1, 4, 2, 5, 0], [3, 4, 2, 2, 1, 1])]
def p6_19 : List D := [.tuple [.int 3, .int 0, .int 5, .int 2, .int 1, .int 4], .tuple [.int 3, .int 0, .int 5, .int 2, .int 4, .int 1], .tuple [.int 3, .int 0, .int 5, .int 4, .int 1, .int 2], .tuple [.int 3, .int 0, .int 5, .int 4, .int 2, .int 1], .tuple [.int 3, .int 1, .int 0, .int 2, .int 4, .int 5], .tuple [.int 3, .int 1, .int 0, .int 2, .int 5, .int 4], .tuple [.int 3, .int 1, .int 0, .int 4, .int 2, .int 5], .tuple [.int 3, .int 1, .int 0, .int 4, .int 5, .int 2], .tuple [.int 3, .int 1, .int 0, .int 5, .int 2, .int 4], .tuple [.int 3, .int 1, .int 0, .int 5, .int 4, .int 2], .tuple [.int 3, .int 1, .int 2, .int 0, .int 4, .int 5], .tuple [.int 3, .int 1, .int 2, .int 0, .int 5, .int 4], .tuple [.int 3, .int 1, .int 2, .int 4, .int 0, .int 5], .tuple [.int 3, .int 1, .int 2, .int 4, .int 5, .int 0], .tuple [.int 3, .int 1, .int 2, .int 5, .int 0, .int 4], .tuple [.int 3, .int 1, .int 2, .int 5, .int 4, .int 0], .tuple [.int 3, .int 1, .int 4, .int 0, .int 2, .int 5], .tuple [.int 3, .int 1, .int 4, .int 0, .int 5, .int 2], .tuple [.int 3, .int 1, .int 4, .int 2, .int 0, .int 5], .tuple [.int 3, .int 1, .int 4, .int 2, .int 5, .int 0]]
def f6_19 : List D := [.tuple [.int 3, .int 1, .int 0, .int 2, .int 4, .int 5], .tuple [.int 3, .int 1, .int 0, .int 2, .int 5, .int 4], .tuple [.int 3, .int 1, .int 2, .int 0, .int 4, .int 5], .tuple [.int 3, .int 1, .int 2, .int 0, .int 5, .int 4], .tuple [.int 3, .int 1, .int 2, .int 4, .int 0, .int 5], .tuple [.int 3, .int 1, .int 2, .int 4, .int 5, .int 0], .tuple [.int 3, .int 1, .int 2, .int 5, .int 4, .int 0]]
def c6_19 : List Nat := [53196618251512222410302465786028520225605429291538088592129268130718786086947663359120655460994114691416380616836266945107545342087371828670947286976006, 3486293573731105007881582397753165101505277414050240173973783716312564101602074168099693222781089121144781332868822017657337460379735111266078448474650969606, 3486293573731104816789881222090097638055543016796082333302005627362755850548443276541135458466315578030320140345125600290189916413394059985205853305335842310, 228477735648041685273141655770896638807608067148748051795280240794845665199279386414323340817902984231012426111854776354903857807910578484815104573930812790408710, 228477735648041685272950936211147815090872578668140436295761158081133387297875196906414674454235263719144776350331677420724144289048264840983449381109843014059526, 228477735648041685272950933303837496557485716920278898930096937526198976838827189030596297723646175854297665330156903079022299132970908085854579412600800420431366, 228477735648041685272950936211147815090872578668140436295761158081133387299367166764321522200081927879487994625721170075518557744484678439196355198444067310929414]
theorem sp6_19 : ss6_19.map (fun a => PyData.tuple (a.1.map (Pm.dAt 6))) = p6_19 := by kernel_rfl
theorem ch6_19 : chainP 6 ([3, 0, 5, 1, 4, 2], [3, 5, 1, 3, 1, 1]) ss6_19 = some ([3, 1, 4, 2, 5, 0], [3, 4, 2, 2, 1, 1]) := by kernel_rfl
def ss6_20 : List Pm.St2 := [([3, 1, 4, 5, 0, 2], [3, 4, 2, 1, 2, 1]), ([3, 1, 4, 5, 2, 0], [3, 4, 2, 1, 1, 1]), ([3, 1, 5, 0, 2, 4], [3, 4, 1, 3, 2, 1]), ([3, 1, 5, 0, 4, 2], [3, 4, 1, 3, 1, 1]), ([3, 1, 5, 2, 0, 4], [3, 4, 1, 2, 2, 1]), ([3, 1, 5, 2, 4, 0], [3, 4, 1, 2, 1, 1]), ([3, 1, 5, 4, 0, 2], [3, 4, 1, 1, 2, 1]), ([3, 1, 5, 4, 2, 0], [3, 4, 1, 1, 1, 1]), ([3, 2, 0, 1, 4, 5], [3, 3, 4, 3, 2, 1]), ([3, 2, 0, 1, 5, 4], [3, 3, 4, 3, 1, 1]), ([3, 2, 0, 4, 1, 5], [3, 3, 4, 2, 2, 1]), ([3, 2, 0, 4, 5, 1], [3, 3, 4, 2, 1, 1]), ([3, 2, 0, 5, 1, 4], [3, 3, 4, 1, 2, 1]), ([3, 2, 0, 5, 4, 1], [3, 3, 4, 1, 1, 1]), ([3, 2, 1, 0, 4, 5], [3, 3, 3, 3, 2, 1]), ([3, 2, 1, 0, 5, 4], [3, 3, 3, 3, 1, 1]), ([3, 2, 1, 4, 0, 5], [3, 3, 3, 2, 2, 1]), ([3, 2, 1, 4, 5, 0], [3, 3, 3, 2, 1, 1]), ([3, 2, 1, 5, 0, 4], [3, 3, 3, 1, 2, 1]), ([3, 2, 1, 5, 4, 0], [3, 3, 3, 1, 1, 1])]
def p6_20 : List D := [.tuple [.int 3, .int 1, .int 4, .int 5, .int 0, .int 2], .tuple [.int 3, .int 1, .int 4, .int 5, .int 2, .int 0], .tuple [.int 3, .int 1, .int 5, .int 0, .int 2, .int 4], .tuple [.int 3, .int 1, .int 5, .int 0, .int 4, .int 2], .tuple [.int 3, .int 1, .int 5, .int 2, .int 0, .int 4], .tuple [.int 3, .int 1, .int 5, .int 2, .int 4, .int 0], .tuple [.int 3, .int 1, .int 5, .int 4, .int 0, .int 2], .tuple [.int 3, .int 1, .int 5, .int 4, .int 2, .int 0], .tuple [.int 3, .int 2, .int 0, .int 1, .int 4, .int 5], .tuple [.int 3, .int 2, .int 0, .int 1, .int 5, .int 4], .tuple [.int 3, .int 2, .int 0, .int 4, .int 1, .int 5], .tuple [.int 3, .int 2, .int 0, .int 4, .int 5, .int 1], .tuple [.int 3, .int 2, .int 0, .int 5, .int 1, .int 4], .tuple [.int 3, .int 2, .int 0, .int 5, .int 4, .int 1], .tuple [.int 3, .int 2, .int 1, .int 0, .int 4, .int 5], .tuple [.int 3, .int 2, .int 1, .int 0, .int 5, .int 4], .tuple [.int 3, .int 2, .int 1, .int 4, .int 0, .int 5], .tuple [.int 3, .int 2, .int 1, .int 4, .int 5, .int 0], .tuple [.int 3, .int 2, .int 1, .int 5, .int 0, .int 4], .tuple [.int 3, .int 2, .int 1, .int 5, .int 4, .int 0]]
def f6_20 : List D := [.tuple [.int 3, .int 2, .int 0, .int 1, .int 4, .int 5], .tuple [.int 3, .int 2, .int 0, .int 1, .int 5, .int 4], .tuple [.int 3, .int 2, .int 1, .int 0, .int 4, .int 5], .tuple [.int 3, .int 2, .int 1, .int 0, .int 5, .int 4], .tuple [.int 3, .int 2, .int 1, .int 4, .int 0, .int 5], .tuple [.int 3, .int 2, .int 1, .int 4, .int 5, .int 0], .tuple [.int 3, .int 2, .int 1, .int 5, .int 4, .int 0]]
def c6_20 : List Nat := [53196618251512408481015884781168471044310032215450289776481585525189894319500862471918727935355008585367217469886176117838669181693864710588512808076806, 3486293573731117202211857025018656918359902271271750190791497189076622650700208317586135047362184687439928780004688758524684758583560739750912866118458017286, 53196618251512222410302465786028520225604828064636900686609322834677924822698330349415015592570038554118431610578766747721968765521775238230345070806534, 3486293573731105007881582397753165101505238012044043923397628581293452481180357777779283167115773751931496386258076868146852835903407607114290915102463231494, 3486293573731104817162022648929448366016796805833513753703164484089366656551302008743381303354972789293621597964852727024335947689146563770279562277271504390, 3486293573731104817159115338610914979155048944897365816676051142843198624745863822185183585497600312068864665246656171192620862346108973071233464880775693830, 3486293573731104817162022648929448366016796805833513753703164484089366656551302008743381303670909695782975832562411546443294740353011550227925411767496607238]
theorem sp6_20 : ss6_20.map (fun a => PyData.tuple (a.1.map (Pm.dAt 6))) = p6_20 := by kernel_rfl
theorem ch6_20 : chainP 6 ([3, 1, 4, 2, 5, 0], [3, 4, 2, 2, 1, 1]) ss6_20 = some ([3, 2, 1, 5, 4, 0], [3, 3, 3, 1, 1, 1]) := by kernel_rfl
def ss6_21 : List Pm.St2 := [([3, 2, 4, 0, 1, 5], [3, 3, 2, 3, 2, 1]), ([3, 2, 4, 0, 5, 1], [3, 3, 2, 3, 1, 1]), ([3, 2, 4, 1, 0, 5], [3, 3, 2, 2, 2, 1]), ([3, 2, 4, 1, 5, 0], [3, 3, 2, 2, 1, 1]), ([3, 2, 4, 5, 0, 1], [3, 3, 2, 1, 2, 1]), ([3, 2, 4, 5, 1, 0], [3, 3, 2, 1, 1, 1]), ([3, 2, 5, 0, 1, 4], [3, 3, 1, 3, 2, 1]), ([3, 2, 5, 0, 4, 1], [3, 3, 1, 3, 1, 1]), ([3, 2, 5, 1, 0, 4], [3, 3, 1, 2, 2, 1]), ([3, 2, 5, 1, 4, 0], [3, 3, 1, 2, 1, 1]), ([3, 2, 5, 4, 0, 1], [3, 3, 1, 1, 2, 1]), ([3, 2, 5, 4, 1, 0], [3, 3, 1, 1, 1, 1]), ([3, 4, 0, 1, 2, 5], [3, 2, 4, 3, 2, 1]), ([3, 4, 0, 1, 5, 2], [3, 2, 4, 3, 1, 1]), ([3, 4, 0, 2, 1, 5], [3, 2, 4, 2, 2, 1]), ([3, 4, 0, 2, 5, 1], [3, 2, 4, 2, 1, 1]), ([3, 4, 0, 5, 1, 2], [3, 2, 4, 1, 2, 1]), ([3, 4, 0, 5, 2, 1], [3, 2, 4, 1, 1, 1]), ([3, 4, 1, 0, 2, 5], [3, 2, 3, 3, 2, 1]), ([3, 4, 1, 0, 5, 2], [3, 2, 3, 3, 1, 1])]
def p6_21 : List D := [.tuple [.int 3, .int 2, .int 4, .int 0, .int 1, .int 5], .tuple [.int 3, .int 2, .int 4, .int 0, .int 5, .int 1], .tuple [.int 3, .int 2, .int 4, .int 1, .int 0, .int 5], .tuple [.int 3, .int 2, .int 4, .int 1, .int 5, .int 0], .tuple [.int 3, .int 2, .int 4, .int 5, .int 0, .int 1], .tuple [.int 3, .int 2, .int 4, .int 5, .int 1, .int 0], .tuple [.int 3, .int 2, .int 5, .int 0, .int 1, .int 4], .tuple [.int 3, .int 2, .int 5, .int 0, .int 4, .int 1], .tuple [.int 3, .int 2, .int 5, .int 1, .int 0, .int 4], .tuple [.int 3, .int 2, .int 5, .int 1, .int 4, .int 0], .tuple [.int 3, .int 2, .int 5, .int 4, .int 0, .int 1], .tuple [.int 3, .int 2, .int 5, .int 4, .int 1, .int 0], .tuple [.int 3, .int 4, .int 0, .int 1, .int 2, .int 5], .tuple [.int 3, .int 4, .int 0, .int 1, .int 5, .int 2], .tuple [.int 3, .int 4, .int 0, .int 2, .int 1, .int 5], .tuple [.int 3, .int 4, .int 0, .int 2, .int 5, .int 1], .tuple [.int 3, .int 4, .int 0, .int 5, .int 1, .int 2], .tuple [.int 3, .int 4, .int 0, .int 5, .int 2, .int 1], .tuple [.int 3, .int 4, .int 1, .int 0, .int 2, .int 5], .tuple [.int 3, .int 4, .int 1, .int 0, .int 5, .int 2]]
def f6_21 : List D := [.tuple [.int 3, .int 2, .int 4, .int 0, .int 1, .int 5], .tuple [.int 3, .int 2, .int 4, .int 1, .int 0, .int 5], .tuple [.int 3, .int 2, .int 4, .int 1, .int 5, .int 0], .tuple [.int 3, .int 2, .int 4, .int 5, .int 0, .int 1], .tuple [.int 3, .int 2, .int 4, .int 5, .int 1, .int 0], .tuple [.int 3, .int 2, .int 5, .int 4, .int 0, .int 1], .tuple [.int 3, .int 2, .int 5, .int 4, .int 1, .int 0], .tuple [.int 3, .int 4, .int 0, .int 1, .int 2, .int 5], .tuple [.int 3, .int 4, .int 0, .int 2, .int 1, .int 5], .tuple [.int 3, .int 4, .int 0, .int 2, .int 5, .int 1], .tuple [.int 3, .int 4, .int 1, .int 0, .int 2, .int 5]]
def c6_21 : List Nat := [3486293573731117011492297320773421976351167495774217236759216953059661788670610856893614914019739300837574188603245900682870887675008466325228433963529668102, 3486293573731105007881582397753165101505237395795900925809699566742386288942537358590265792638687637268181894790248332577066658875680168348578054851948578310, 3486293573731104817348093362349123729997423700643439714073539141770190821771201667757013800884505770726313231719769557606249144853668812360435864969278785030, 3486293573731117011489390010455568803139832838366369974128094550898291194955675246905591906707999270065579534609281802460399748844879462272530614994556290566, 53196618251512222410302465786028520225604818661293135061340423528645377716277415999777493571031912589328738256192882118081982119610213874086563738420742, 3486293573731117011492297320773421976351167495774217236759216953059663280640468300127785850135666283852173631806286638228598537244752745635231227821997557254, 53196618251512222410302465786028520225604818661436476529078667705419712660866353738254788100503914547085952305878633972736437011722410612015711830541830, 3486293573731129205822571992618075800346038302822443578726864060232710944899417033565568028375733418780992253104037717723682814178054778759588665749632583174, 228477735648042496964156450983876081456504627898227340943421545968899581928914501125328216146386001282308386363499273599808404079485975557038346289646214639388166, 228477735648042484477353527491762620224781701151553039063604838172431016781352509925635864496334629958058826518550618879986819862507145224120572731136348480996870, 3486293573731105007881582397753165101505276797802097320286716059388075440639536408654371231204694122736656946802919386812057615186990693899125209680937616902]
theorem sp6_21 : ss6_21.map (fun a => PyData.tuple (a.1.map (Pm.dAt 6))) = p6_21 := by kernel_rfl
theorem ch6_21 : chainP 6 ([3, 2, 1, 5, 4, 0], [3, 3, 3, 1, 1, 1]) ss6_21 = some ([3, 4, 1, 0, 5, 2], [3, 2, 3, 3, 1, 1]) := by kernel_rfl
def ss6_22 : List Pm.St2 := [([3, 4, 1, 2, 0, 5], [3, 2, 3, 2, 2, 1]), ([3, 4, 1, 2, 5, 0], [3, 2, 3, 2, 1, 1]), ([3, 4, 1, 5, 0, 2], [3, 2, 3, 1, 2, 1]), ([3, 4, 1, 5, 2, 0], [3, 2, 3, 1, 1, 1]), ([3, 4, 2, 0, 1, 5], [3, 2, 2, 3, 2, 1]), ([3, 4, 2, 0, 5, 1], [3, 2, 2, 3, 1, 1]), ([3, 4, 2, 1, 0, 5], [3, 2, 2, 2, 2, 1]), ([3, 4, 2, 1, 5, 0], [3, 2, 2, 2, 1, 1]), ([3, 4, 2, 5, 0, 1], [3, 2, 2, 1, 2, 1]), ([3, 4, 2, 5, 1, 0], [3, 2, 2, 1, 1, 1]), ([3, 4, 5, 0, 1, 2], [3, 2, 1, 3, 2, 1]), ([3, 4, 5, 0, 2, 1], [3, 2, 1, 3, 1, 1]), ([3, 4, 5, 1, 0, 2], [3, 2, 1, 2, 2, 1]), ([3, 4, 5, 1, 2, 0], [3, 2, 1, 2, 1, 1]), ([3, 4, 5, 2, 0, 1], [3, 2, 1, 1, 2, 1]), ([3, 4, 5, 2, 1, 0], [3, 2, 1, 1, 1, 1]), ([3, 5, 0, 1, 2, 4], [3, 1, 4, 3, 2, 1]), ([3, 5, 0, 1, 4, 2], [3, 1, 4, 3, 1, 1]), ([3, 5, 0, 2, 1, 4], [3, 1, 4, 2, 2, 1]), ([3, 5, 0, 2, 4, 1], [3, 1, 4, 2, 1, 1])]
def p6_22 : List D := [.tuple [.int 3, .int 4, .int 1, .int 2, .int 0, .int 5], .tuple [.int 3, .int 4, .int 1, .int 2, .int 5, .int 0], .tuple [.int 3, .int 4, .int 1, .int 5, .int 0, .int 2], .tuple [.int 3, .int 4, .int 1, .int 5, .int 2, .int 0], .tuple [.int 3, .int 4, .int 2, .int 0, .int 1, .int 5], .tuple [.int 3, .int 4, .int 2, .int 0, .int 5, .int 1], .tuple [.int 3, .int 4, .int 2, .int 1, .int 0, .int 5], .tuple [.int 3, .int 4, .int 2, .int 1, .int 5, .int 0], .tuple [.int 3, .int 4, .int 2, .int 5, .int 0, .int 1], .tuple [.int 3, .int 4, .int 2, .int 5, .int 1, .int 0], .tuple [.int 3, .int 4, .int 5, .int 0, .int 1, .int 2], .tuple [.int 3, .int 4, .int 5, .int 0, .int 2, .int 1], .tuple [.int 3, .int 4, .int 5, .int 1, .int 0, .int 2], .tuple [.int 3, .int 4, .int 5, .int 1, .int 2, .int 0], .tuple [.int 3, .int 4, .int 5, .int 2, .int 0, .int 1], .tuple [.int 3, .int 4, .int 5, .int 2, .int 1, .int 0], .tuple [.int 3, .int 5, .int 0, .int 1, .int 2, .int 4], .tuple [.int 3, .int 5, .int 0, .int 1, .int 4, .int 2], .tuple [.int 3, .int 5, .int 0, .int 2, .int 1, .int 4], .tuple [.int 3, .int 5, .int 0, .int 2, .int 4, .int 1]]
def f6_22 : List D := [.tuple [.int 3, .int 4, .int 1, .int 2, .int 0, .int 5], .tuple [.int 3, .int 4, .int 1, .int 2, .int 5, .int 0], .tuple [.int 3, .int 4, .int 2, .int 0, .int 1, .int 5], .tuple [.int 3, .int 4, .int 2, .int 1, .int 0, .int 5], .tuple [.int 3, .int 4, .int 2, .int 1, .int 5, .int 0], .tuple [.int 3, .int 4, .int 2, .int 5, .int 0, .int 1], .tuple [.int 3, .int 4, .int 2, .int 5, .int 1, .int 0], .tuple [.int 3, .int 4, .int 5, .int 0, .int 1, .int 2], .tuple [.int 3, .int 4, .int 5, .int 0, .int 2, .int 1], .tuple [.int 3, .int 4, .int 5, .int 1, .int 0, .int 2], .tuple [.int 3, .int 4, .int 5, .int 1, .int 2, .int 0], .tuple [.int 3, .int 4, .int 5, .int 2, .int 0, .int 1], .tuple [.int 3, .int 4, .int 5, .int 2, .int 1, .int 0]]
def c6_22 : List Nat := [228477735648041685273141655770896638807608067148131803652426553727188740710618423876564340734578139718512923584787235893114688099452645227304820921311528483161606, 228477735648041685272951122281861234766236559295035246221721530651543957491613708857512529965407823332970099350258787219181404118578998306376005720043937310574086, 3486293573731117202211857025018656918359902271262346990227357748022415054383152795055150823567566435593817727263911610686865091267210586048138728681635186182, 3486293573731105007881582397753165101505238012044043923397628581293450489975185911196691450528689123927689987341727529862586684236074471253445087167011751430, 3486293573731104817348093362349123729997423700652842914497696672425320079952980120035953718268201602047825977615697572582771123855131765926113767367001900550, 3486293573731117011678368034193097340331794390593546254072295220810883821266189504015940106888304754850450909940791977286571807744693077017653113390574732806, 53196618251512222410302465786028520225604818670610470993038953751862996241611087919628437535330451485478706039703911253702415983721158849526637856687622, 3486293573731129205819664682300222637503853494837649331819073987924303606993247131485139048101254844694567905293170455296098094380375758619514193640931329542, 3486293573731117202211859908811585715583871885644709686838423209876449506510971340929766774172298372090364884524470708074583455908714836425650866965245724166, 3486293573731105007881582397753165101505276797792703293859218241908362199003007224764932742659275322591839152911248138051398297205986821631067634367549801990, 3486293573731104816789881222090097638055543016786678989538576144857349563558605763967597434465920045664737236437933492880326272469366311303229946416809248262, 53196618251512408481015884781168471044310032215306806135343748074703924968055879115642702118861463391301805724795597469162272287589352269977650551195142, 811715976738162573399390652252632449731518982919874583230733075480314551374137442157106697706253384818097946442469327973693288841614056672503137798]
theorem sp6_22 : ss6_22.map (fun a => PyData.tuple (a.1.map (Pm.dAt 6))) = p6_22 := by kernel_rfl
theorem ch6_22 : chainP 6 ([3, 4, 1, 0, 5, 2], [3, 2, 3, 3, 1, 1]) ss6_22 = some ([3, 5, 0, 2, 4, 1], [3, 1, 4, 2, 1, 1]) := by kernel_rfl
def ss6_23 : List Pm.St2 := [([3, 5, 0, 4, 1, 2], [3, 1, 4, 1, 2, 1]), ([3, 5, 0, 4, 2, 1], [3, 1, 4, 1, 1, 1]), ([3, 5, 1, 0, 2, 4], [3, 1, 3, 3, 2, 1]), ([3, 5, 1, 0, 4, 2], [3, 1, 3, 3, 1, 1]), ([3, 5, 1, 2, 0, 4], [3, 1, 3, 2, 2, 1]), ([3, 5, 1, 2, 4, 0], [3, 1, 3, 2, 1, 1]), ([3, 5, 1, 4, 0, 2], [3, 1, 3, 1, 2, 1]), ([3, 5, 1, 4, 2, 0], [3, 1, 3, 1, 1, 1]), ([3, 5, 2, 0, 1, 4], [3, 1, 2, 3, 2, 1]), ([3, 5, 2, 0, 4, 1], [3, 1, 2, 3, 1, 1]), ([3, 5, 2, 1, 0, 4], [3, 1, 2, 2, 2, 1]), ([3, 5, 2, 1, 4, 0], [3, 1, 2, 2, 1, 1]), ([3, 5, 2, 4, 0, 1], [3, 1, 2, 1, 2, 1]), ([3, 5, 2, 4, 1, 0], [3, 1, 2, 1, 1, 1]), ([3, 5, 4, 0, 1, 2], [3, 1, 1, 3, 2, 1]), ([3, 5, 4, 0, 2, 1], [3, 1, 1, 3, 1, 1]), ([3, 5, 4, 1, 0, 2], [3, 1, 1, 2, 2, 1]), ([3, 5, 4, 1, 2, 0], [3, 1, 1, 2, 1, 1]), ([3, 5, 4, 2, 0, 1], [3, 1, 1, 1, 2, 1]), ([3, 5, 4, 2, 1, 0], [3, 1, 1, 1, 1, 1])]
def p6_23 : List D := [.tuple [.int 3, .int 5, .int 0, .int 4, .int 1, .int 2], .tuple [.int 3, .int 5, .int 0, .int 4, .int 2, .int 1], .tuple [.int 3, .int 5, .int 1, .int 0, .int 2, .int 4], .tuple [.int 3, .int 5, .int 1, .int 0, .int 4, .int 2], .tuple [.int 3, .int 5, .int 1, .int 2, .int 0, .int 4], .tuple [.int 3, .int 5, .int 1, .int 2, .int 4, .int 0], .tuple [.int 3, .int 5, .int 1, .int 4, .int 0, .int 2], .tuple [.int 3, .int 5, .int 1, .int 4, .int 2, .int 0], .tuple [.int 3, .int 5, .int 2, .int 0, .int 1, .int 4], .tuple [.int 3, .int 5, .int 2, .int 0, .int 4, .int 1], .tuple [.int 3, .int 5, .int 2, .int 1, .int 0, .int 4], .tuple [.int 3, .int 5, .int 2, .int 1, .int 4, .int 0], .tuple [.int 3, .int 5, .int 2, .int 4, .int 0, .int 1], .tuple [.int 3, .int 5, .int 2, .int 4, .int 1, .int 0], .tuple [.int 3, .int 5, .int 4, .int 0, .int 1, .int 2], .tuple [.int 3, .int 5, .int 4, .int 0, .int 2, .int 1], .tuple [.int 3, .int 5, .int 4, .int 1, .int 0, .int 2], .tuple [.int 3, .int 5, .int 4, .int 1, .int 2, .int 0], .tuple [.int 3, .int 5, .int 4, .int 2, .int 0, .int 1], .tuple [.int 3, .int 5, .int 4, .int 2, .int 1, .int 0]]
def f6_23 : List D := [.tuple [.int 3, .int 5, .int 4, .int 0, .int 1, .int 2], .tuple [.int 3, .int 5, .int 4, .int 0, .int 2, .int 1], .tuple [.int 3, .int 5, .int 4, .int 1, .int 0, .int 2], .tuple [.int 3, .int 5, .int 4, .int 1, .int 2, .int 0], .tuple [.int 3, .int 5, .int 4, .int 2, .int 0, .int 1], .tuple [.int 3, .int 5, .int 4, .int 2, .int 1, .int 0]]
def c6_23 : List Nat := [3486293573731129205822571992618075800346038302829489207175105791944720929353041089013906457290544067967531240244096988178162257533147022527733922132784449030, 3486293573731117202211859908811585715583871885654103713125939116957087397867600685502973170633660450409668083317974067759810179257331819296245696311817799174, 3486293573731105007881582397753165101505276797802097320286716059388076932609394316859055623934590506080479092149161182753059073684361854606976298881384842758, 3486293573731104816789881222090097638055543016786679132880043849596996165651098537208131411442629054754598416330199207338179519294933819669886380070763103750, 53196618251512408481015884781168471044310032215306808322561000793799080602310336887959621577201742837652849936108605015244610944245653943135048881800710, 811715976738162573399390652252632449731518982919874583230733075480314551381204722262148617497791077573162751695002090039023492477225272322984117766]
theorem sp6_23 : ss6_23.map (fun a => PyData.tuple (a.1.map (Pm.dAt 6))) = p6_23 := by kernel_rfl
theorem ch6_23 : chainP 6 ([3, 5, 0, 2, 4, 1], [3, 1, 4, 2, 1, 1]) ss6_23 = some ([3, 5, 4, 2, 1, 0], [3, 1, 1, 1, 1, 1]) := by kernel_rfl
def ss6_24 : List Pm.St2 := [([4, 0, 1, 2, 3, 5], [2, 5, 4, 3, 2, 1]), ([4, 0, 1, 2, 5, 3], [2, 5, 4, 3, 1, 1]), ([4, 0, 1, 3, 2, 5], [2, 5, 4, 2, 2, 1]), ([4, 0, 1, 3, 5, 2], [2, 5, 4, 2, 1, 1]), ([4, 0, 1, 5, 2, 3], [2, 5, 4, 1, 2, 1]), ([4, 0, 1, 5, 3, 2], [2, 5, 4, 1, 1, 1]), ([4, 0, 2, 1, 3, 5], [2, 5, 3, 3, 2, 1]), ([4, 0, 2, 1, 5, 3], [2, 5, 3, 3, 1, 1]), ([4, 0, 2, 3, 1, 5], [2, 5, 3, 2, 2, 1]), ([4, 0, 2, 3, 5, 1], [2, 5, 3, 2, 1, 1]), ([4, 0, 2, 5, 1, 3], [2, 5, 3, 1, 2, 1]), ([4, 0, 2, 5, 3, 1], [2, 5, 3, 1, 1, 1]), ([4, 0, 3, 1, 2, 5], [2, 5, 2, 3, 2, 1]), ([4, 0, 3, 1, 5, 2], [2, 5, 2, 3, 1, 1]), ([4, 0, 3, 2, 1, 5], [2, 5, 2, 2, 2, 1]), ([4, 0, 3, 2, 5, 1], [2, 5, 2, 2, 1, 1]), ([4, 0, 3, 5, 1, 2], [2, 5, 2, 1, 2, 1]), ([4, 0, 3, 5, 2, 1], [2, 5, 2, 1, 1, 1]), ([4, 0, 5, 1, 2, 3], [2, 5, 1, 3, 2, 1]), ([4, 0, 5, 1, 3, 2], [2, 5, 1, 3, 1, 1])]
def p6_24 : List D := [.tuple [.int 4, .int 0, .int 1, .int 2, .int 3, .int 5], .tuple [.int 4, .int 0, .int 1, .int 2, .int 5, .int 3], .tuple [.int 4, .int 0, .int 1, .int 3, .int 2, .int 5], .tuple [.int 4, .int 0, .int 1, .int 3, .int 5, .int 2], .tuple [.int 4, .int 0, .int 1, .int 5, .int 2, .int 3], .tuple [.int 4, .int 0, .int 1, .int 5, .int 3, .int 2], .tuple [.int 4, .int 0, .int 2, .int 1, .int 3, .int 5], .tuple [.int 4, .int 0, .int 2, .int 1, .int 5, .int 3], .tuple [.int 4, .int 0, .int 2, .int 3, .int 1, .int 5], .tuple [.int 4, .int 0, .int 2, .int 3, .int 5, .int 1], .tuple [.int 4, .int 0, .int 2, .int 5, .int 1, .int 3], .tuple [.int 4, .int 0, .int 2, .int 5, .int 3, .int 1], .tuple [.int 4, .int 0, .int 3, .int 1, .int 2, .int 5], .tuple [.int 4, .int 0, .int 3, .int 1, .int 5, .int 2], .tuple [.int 4, .int 0, .int 3, .int 2, .int 1, .int 5], .tuple [.int 4, .int 0, .int 3, .int 2, .int 5, .int 1], .tuple [.int 4, .int 0, .int 3, .int 5, .int 1, .int 2], .tuple [.int 4, .int 0, .int 3, .int 5, .int 2, .int 1], .tuple [.int 4, .int 0, .int 5, .int 1, .int 2, .int 3], .tuple [.int 4, .int 0, .int 5, .int 1, .int 3, .int 2]]
def f6_24 : List D := [.tuple [.int 4, .int 0, .int 1, .int 2, .int 3, .int 5], .tuple [.int 4, .int 0, .int 1, .int 3, .int 2, .int 5], .tuple [.int 4, .int 0, .int 1, .int 3, .int 5, .int 2], .tuple [.int 4, .int 0, .int 2, .int 1, .int 3, .int 5], .tuple [.int 4, .int 0, .int 2, .int 3, .int 1, .int 5], .tuple [.int 4, .int 0, .int 2, .int 3, .int 5, .int 1], .tuple [.int 4, .int 0, .int 3, .int 1, .int 2, .int 5], .tuple [.int 4, .int 0, .int 3, .int 2, .int 1, .int 5], .tuple [.int 4, .int 0, .int 3, .int 2, .int 5, .int 1], .tuple [.int 4, .int 0, .int 3, .int 5, .int 1, .int 2], .tuple [.int 4, .int 0, .int 3, .int 5, .int 2, .int 1]]
def c6_24 : List Nat := [3486293573731141590872406368707285013755199471494329053078762879530823732763858513042993872470146033474485364757001982390052452467369884169538270875825341958, 228477735648043296131785517948600734820762058212012207654487231442673757108075886298761404286796370959686856574568736390490753165711994121224160296890881108477446, 228477735648043283644982408388613067680452242658353861159366047739689819458005410893986400733565442701289359821656938385535765798222123241389445526500546934343174, 228477735648042496964156450983876081456507250534543116693375909141831087256914073723313616851357943851234295101597870417741017163062768298970777745099441320625670, 14973516883430112261109505519938367056583915787636715135304874379787146818048157726730879670756771283372315455859867785803281184914861583032344981873860033558476097030, 14973516883430112261097018717014874943122684062087372163481574683025783789634962214727622346367230601870127947031389545761729320182841714504821849956755204333346620934, 228477735648043296131785328959186566932669077383144813776462121471708144598209724524180862059868358068616245334592943397344100421347165783898202322379975927662086, 14973516883430113081042957171679302874333489940703886814056490564906997784412375058447144921357909210870646659685342736058778094643026933823122794967490111381522744838, 14973516883430112262707840777700155079051293566708566406973132816071959153544911679266878168508800291417775647362627184595483647512610958347927138575680621728240109062, 228477735648043283644982408385729318074618989286454006615392078850682694128224681735023775908397185132733282694410234653342877207939769041738302247112508132689414, 228477735648042496964156450983876081456504627937629347158307917166243313015519200042464010527716156114999086557456331266394221850345283075179213569020933481825798]
theorem sp6_24 : ss6_24.map (fun a => PyData.tuple (a.1.map (Pm.dAt 6))) = p6_24 := by kernel_rfl
theorem ch6_24 : chainP 6 ([3, 5, 4, 2, 1, 0], [3, 1, 1, 1, 1, 1]) ss6_24 = some ([4, 0, 5, 1, 3, 2], [2, 5, 1, 3, 1, 1]) := by kernel_rfl
def ss6_25 : List Pm.St2 := [([4, 0, 5, 2, 1, 3], [2, 5, 1, 2, 2, 1]), ([4, 0, 5, 2, 3, 1], [2, 5, 1, 2, 1, 1]), ([4, 0, 5, 3, 1, 2], [2, 5, 1, 1, 2, 1]), ([4, 0, 5, 3, 2, 1], [2, 5, 1, 1, 1, 1]), ([4, 1, 0, 2, 3, 5], [2, 4, 4, 3, 2, 1]), ([4, 1, 0, 2, 5, 3], [2, 4, 4, 3, 1, 1]), ([4, 1, 0, 3, 2, 5], [2, 4, 4, 2, 2, 1]), ([4, 1, 0, 3, 5, 2], [2, 4, 4, 2, 1, 1]), ([4, 1, 0, 5, 2, 3], [2, 4, 4, 1, 2, 1]), ([4, 1, 0, 5, 3, 2], [2, 4, 4, 1, 1, 1]), ([4, 1, 2, 0, 3, 5], [2, 4, 3, 3, 2, 1]), ([4, 1, 2, 0, 5, 3], [2, 4, 3, 3, 1, 1]), ([4, 1, 2, 3, 0, 5], [2, 4, 3, 2, 2, 1]), ([4, 1, 2, 3, 5, 0], [2, 4, 3, 2, 1, 1]), ([4, 1, 2, 5, 0, 3], [2, 4, 3, 1, 2, 1]), ([4, 1, 2, 5, 3, 0], [2, 4, 3, 1, 1, 1]), ([4, 1, 3, 0, 2, 5], [2, 4, 2, 3, 2, 1]), ([4, 1, 3, 0, 5, 2], [2, 4, 2, 3, 1, 1]), ([4, 1, 3, 2, 0, 5], [2, 4, 2, 2, 2, 1]), ([4, 1, 3, 2, 5, 0], [2, 4, 2, 2, 1, 1])]
def p6_25 : List D := [.tuple [.int 4, .int 0, .int 5, .int 2, .int 1, .int 3], .tuple [.int 4, .int 0, .int 5, .int 2, .int 3, .int 1], .tuple [.int 4, .int 0, .int 5, .int 3, .int 1, .int 2], .tuple [.int 4, .int 0, .int 5, .int 3, .int 2, .int 1], .tuple [.int 4, .int 1, .int 0, .int 2, .int 3, .int 5], .tuple [.int 4, .int 1, .int 0, .int 2, .int 5, .int 3], .tuple [.int 4, .int 1, .int 0, .int 3, .int 2, .int 5], .tuple [.int 4, .int 1, .int 0, .int 3, .int 5, .int 2], .tuple [.int 4, .int 1, .int 0, .int 5, .int 2, .int 3], .tuple [.int 4, .int 1, .int 0, .int 5, .int 3, .int 2], .tuple [.int 4, .int 1, .int 2, .int 0, .int 3, .int 5], .tuple [.int 4, .int 1, .int 2, .int 0, .int 5, .int 3], .tuple [.int 4, .int 1, .int 2, .int 3, .int 0, .int 5], .tuple [.int 4, .int 1, .int 2, .int 3, .int 5, .int 0], .tuple [.int 4, .int 1, .int 2, .int 5, .int 0, .int 3], .tuple [.int 4, .int 1, .int 2, .int 5, .int 3, .int 0], .tuple [.int 4, .int 1, .int 3, .int 0, .int 2, .int 5], .tuple [.int 4, .int 1, .int 3, .int 0, .int 5, .int 2], .tuple [.int 4, .int 1, .int 3, .int 2, .int 0, .int 5], .tuple [.int 4, .int 1, .int 3, .int 2, .int 5, .int 0]]
def f6_25 : List D := [.tuple [.int 4, .int 1, .int 0, .int 2, .int 3, .int 5], .tuple [.int 4, .int 1, .int 0, .int 3, .int 2, .int 5], .tuple [.int 4, .int 1, .int 0, .int 3, .int 5, .int 2], .tuple [.int 4, .int 1, .int 2, .int 0, .int 3, .int 5], .tuple [.int 4, .int 1, .int 2, .int 3, .int 0, .int 5], .tuple [.int 4, .int 1, .int 2, .int 3, .int 5, .int 0], .tuple [.int 4, .int 1, .int 3, .int 2, .int 0, .int 5], .tuple [.int 4, .int 1, .int 3, .int 2, .int 5, .int 0]]
def c6_25 : List Nat := [3486293573731105007881582397753165101505316816056436568450802344945289170323817827829420991893753618924091109875657227785401070721132072152846312070455887366, 228477735648041697796527384019151428092249860607197150699277832724134388224900128043717190785782899341924334992022903008345367048612882234401149803162605491455494, 228477735648041697796527384019151428092249820260160256188022600401440357117914103915450657268812594315202404499490759087481205965565168631124321632605337691751942, 228477735648041685273141655770896638807608067188150057991674717813474297924348108157983522858520785474190247208695716266911317744400309360234562505701323358733830, 14973516883430059886048100361203508537950771481231112155529317820020681513640493666206445402923493745228484999528309974548746204392887933358404265910971659873558070790, 14973516883430059886048100170670019502546730109723219041328177968445582633933080298471721412830259045866834867606820959463720203841403645412167453409240112234005661190, 14973516883430059886060611552601482120895402288660352323066143592674097388687236174644457599537827576006328937612074256984821156917782581633627725127773635520789612038, 14973516883430059886048124749864057881640079149959430512634894404364173559402046965872609511361552160043819574570289851421837194534748145474843662708247253692648392198]
theorem sp6_25 : ss6_25.map (fun a => PyData.tuple (a.1.map (Pm.dAt 6))) = p6_25 := by kernel_rfl
theorem ch6_25 : chainP 6 ([4, 0, 5, 1, 3, 2], [2, 5, 1, 3, 1, 1]) ss6_25 = some ([4, 1, 3, 2, 5, 0], [2, 4, 2, 2, 1, 1]) := by kernel_rfl
def ss6_26 : List Pm.St2 := [([4, 1, 3, 5, 0, 2], [2, 4, 2, 1, 2, 1]), ([4, 1, 3, 5, 2, 0], [2, 4, 2, 1, 1, 1]), ([4, 1, 5, 0, 2, 3], [2, 4, 1, 3, 2, 1]), ([4, 1, 5, 0, 3, 2], [2, 4, 1, 3, 1, 1]), ([4, 1, 5, 2, 0, 3], [2, 4, 1, 2, 2, 1]), ([4, 1, 5, 2, 3, 0], [2, 4, 1, 2, 1, 1]), ([4, 1, 5, 3, 0, 2], [2, 4, 1, 1, 2, 1]), ([4, 1, 5, 3, 2, 0], [2, 4, 1, 1, 1, 1]), ([4, 2, 0, 1, 3, 5], [2, 3, 4, 3, 2, 1]), ([4, 2, 0, 1, 5, 3], [2, 3, 4, 3, 1, 1]), ([4, 2, 0, 3, 1, 5], [2, 3, 4, 2, 2, 1]), ([4, 2, 0, 3, 5, 1], [2, 3, 4, 2, 1, 1]), ([4, 2, 0, 5, 1, 3], [2, 3, 4, 1, 2, 1]), ([4, 2, 0, 5, 3, 1], [2, 3, 4, 1, 1, 1]), ([4, 2, 1, 0, 3, 5], [2, 3, 3, 3, 2, 1]), ([4, 2, 1, 0, 5, 3], [2, 3, 3, 3, 1, 1]), ([4, 2, 1, 3, 0, 5], [2, 3, 3, 2, 2, 1]), ([4, 2, 1, 3, 5, 0], [2, 3, 3, 2, 1, 1]), ([4, 2, 1, 5, 0, 3], [2, 3, 3, 1, 2, 1]), ([4, 2, 1, 5, 3, 0], [2, 3, 3, 1, 1, 1])]
def p6_26 : List D := [.tuple [.int 4, .int 1, .int 3, .int 5, .int 0, .int 2], .tuple [.int 4, .int 1, .int 3, .int 5, .int 2, .int 0], .tuple [.int 4, .int 1, .int 5, .int 0, .int 2, .int 3], .tuple [.int 4, .int 1, .int 5, .int 0, .int 3, .int 2], .tuple [.int 4, .int 1, .int 5, .int 2, .int 0, .int 3], .tuple [.int 4, .int 1, .int 5, .int 2, .int 3, .int 0], .tuple [.int 4, .int 1, .int 5, .int 3, .int 0, .int 2], .tuple [.int 4, .int 1, .int 5, .int 3, .int 2, .int 0], .tuple [.int 4, .int 2, .int 0, .int 1, .int 3, .int 5], .tuple [.int 4, .int 2, .int 0, .int 1, .int 5, .int 3], .tuple [.int 4, .int 2, .int 0, .int 3, .int 1, .int 5], .tuple [.int 4, .int 2, .int 0, .int 3, .int 5, .int 1], .tuple [.int 4, .int 2, .int 0, .int 5, .int 1, .int 3], .tuple [.int 4, .int 2, .int 0, .int 5, .int 3, .int 1], .tuple [.int 4, .int 2, .int 1, .int 0, .int 3, .int 5], .tuple [.int 4, .int 2, .int 1, .int 0, .int 5, .int 3], .tuple [.int 4, .int 2, .int 1, .int 3, .int 0, .int 5], .tuple [.int 4, .int 2, .int 1, .int 3, .int 5, .int 0], .tuple [.int 4, .int 2, .int 1, .int 5, .int 0, .int 3], .tuple [.int 4, .int 2, .int 1, .int 5, .int 3, .int 0]]
def f6_26 : List D := [.tuple [.int 4, .int 1, .int 3, .int 5, .int 2, .int 0], .tuple [.int 4, .int 2, .int 0, .int 1, .int 3, .int 5], .tuple [.int 4, .int 2, .int 1, .int 0, .int 3, .int 5], .tuple [.int 4, .int 2, .int 1, .int 3, .int 0, .int 5], .tuple [.int 4, .int 2, .int 1, .int 3, .int 5, .int 0]]
def c6_26 : List Nat := [228477735648041685273141655770896638807608067148132404879327886008327860941408221261906880691594094935627780393651036620964300474206599333529695937164358405457414, 3486293573731117202211857025018656918359902271872977091979404845008954608586217641555280540162680524057663665500220948540492243105717098446173546276830184966, 3486293573731105007881582397753165101505238012044043923397628581293579795928878218636132493844733697732355017566867815868791223504863077152321952554215147014, 228477735648041685285335986045568483461442431288225601480860126134495689773017295091910485611938757329183959497914611997823860428584920922043968004182967736206854, 228477735648041685285145452556533079420070923473914210279851226202586821513303292246083801745410511169952724450842914848310647260394401124487419118331557289788934]
theorem sp6_26 : ss6_26.map (fun a => PyData.tuple (a.1.map (Pm.dAt 6))) = p6_26 := by kernel_rfl
theorem ch6_26 : chainP 6 ([4, 1, 3, 2, 5, 0], [2, 4, 2, 2, 1, 1]) ss6_26 = some ([4, 2, 1, 5, 3, 0], [2, 3, 3, 1, 1, 1]) := by kernel_rfl
def ss6_27 : List Pm.St2 := [([4, 2, 3, 0, 1, 5], [2, 3, 2, 3, 2, 1]), ([4, 2, 3, 0, 5, 1], [2, 3, 2, 3, 1, 1]), ([4, 2, 3, 1, 0, 5], [2, 3, 2, 2, 2, 1]), ([4, 2, 3, 1, 5, 0], [2, 3, 2, 2, 1, 1]), ([4, 2, 3, 5, 0, 1], [2, 3, 2, 1, 2, 1]), ([4, 2, 3, 5, 1, 0], [2, 3, 2, 1, 1, 1]), ([4, 2, 5, 0, 1, 3], [2, 3, 1, 3, 2, 1]), ([4, 2, 5, 0, 3, 1], [2, 3, 1, 3, 1, 1]), ([4, 2, 5, 1, 0, 3], [2, 3, 1, 2, 2, 1]), ([4, 2, 5, 1, 3, 0], [2, 3, 1, 2, 1, 1]), ([4, 2, 5, 3, 0, 1], [2, 3, 1, 1, 2, 1]), ([4, 2, 5, 3, 1, 0], [2, 3, 1, 1, 1, 1]), ([4, 3, 0, 1, 2, 5], [2, 2, 4, 3, 2, 1]), ([4, 3, 0, 1, 5, 2], [2, 2, 4, 3, 1, 1]), ([4, 3, 0, 2, 1, 5], [2, 2, 4, 2, 2, 1]), ([4, 3, 0, 2, 5, 1], [2, 2, 4, 2, 1, 1]), ([4, 3, 0, 5, 1, 2], [2, 2, 4, 1, 2, 1]), ([4, 3, 0, 5, 2, 1], [2, 2, 4, 1, 1, 1]), ([4, 3, 1, 0, 2, 5], [2, 2, 3, 3, 2, 1]), ([4, 3, 1, 0, 5, 2], [2, 2, 3, 3, 1, 1])]
def p6_27 : List D := [.tuple [.int 4, .int 2, .int 3, .int 0, .int 1, .int 5], .tuple [.int 4, .int 2, .int 3, .int 0, .int 5, .int 1], .tuple [.int 4, .int 2, .int 3, .int 1, .int 0, .int 5], .tuple [.int 4, .int 2, .int 3, .int 1, .int 5, .int 0], .tuple [.int 4, .int 2, .int 3, .int 5, .int 0, .int 1], .tuple [.int 4, .int 2, .int 3, .int 5, .int 1, .int 0], .tuple [.int 4, .int 2, .int 5, .int 0, .int 1, .int 3], .tuple [.int 4, .int 2, .int 5, .int 0, .int 3, .int 1], .tuple [.int 4, .int 2, .int 5, .int 1, .int 0, .int 3], .tuple [.int 4, .int 2, .int 5, .int 1, .int 3, .int 0], .tuple [.int 4, .int 2, .int 5, .int 3, .int 0, .int 1], .tuple [.int 4, .int 2, .int 5, .int 3, .int 1, .int 0], .tuple [.int 4, .int 3, .int 0, .int 1, .int 2, .int 5], .tuple [.int 4, .int 3, .int 0, .int 1, .int 5, .int 2], .tuple [.int 4, .int 3, .int 0, .int 2, .int 1, .int 5], .tuple [.int 4, .int 3, .int 0, .int 2, .int 5, .int 1], .tuple [.int 4, .int 3, .int 0, .int 5, .int 1, .int 2], .tuple [.int 4, .int 3, .int 0, .int 5, .int 2, .int 1], .tuple [.int 4, .int 3, .int 1, .int 0, .int 2, .int 5], .tuple [.int 4, .int 3, .int 1, .int 0, .int 5, .int 2]]
def f6_27 : List D := [.tuple [.int 4, .int 2, .int 3, .int 0, .int 1, .int 5], .tuple [.int 4, .int 2, .int 3, .int 1, .int 0, .int 5], .tuple [.int 4, .int 2, .int 3, .int 1, .int 5, .int 0], .tuple [.int 4, .int 2, .int 3, .int 5, .int 0, .int 1], .tuple [.int 4, .int 2, .int 3, .int 5, .int 1, .int 0], .tuple [.int 4, .int 3, .int 0, .int 1, .int 2, .int 5], .tuple [.int 4, .int 3, .int 0, .int 2, .int 1, .int 5], .tuple [.int 4, .int 3, .int 0, .int 2, .int 5, .int 1], .tuple [.int 4, .int 3, .int 1, .int 0, .int 2, .int 5]]
def c6_27 : List Nat := [228477735648042484452964866939535137988315748824180146173322768648588981533968034652961934265219116620777723153851969786519002390049808867129107612436219159774726, 228477735648041697796527384019151428092247237931478156877469991593749987859309263047932776585935556391710324709151547121230688056794631296766142994457339862844934, 228477735648041685309724646594912172769111159645367863874622271093744885988566637096736866921038936232235318158767945198345803020595145076629852339169611550688774, 228477735648042484452774333450544312428737720716298866751802337456812181793663801084221746708540262969421267535086784400436289147648704879288927510881148435039750, 3486293573731105007881582397753165101505237395185279998189904690033596441235916098728087730941335410268334874902994883996510672178229586622353172014163166726, 3486293573731129396542131696862631189750241750859834898427238434365220175594615526487270959579228428248599200484252207106415020447728713240294467622612108806, 228477735648042496964156450983876081456504668284665029784930016295756817025851102216410459740574642394120699016454135320153899363063727449517847230724537707791878, 228477735648042484477353527491762620224781701152169287197284670760174041336331406052971849027639472924384385178105019071401539061041662425973000289473770893477382, 3486293573731105007881582397753165101505277414050240173973783716312564099659405275421651303278360825947938266036228038553362061527764248174185068849074144774]
theorem sp6_27 : ss6_27.map (fun a => PyData.tuple (a.1.map (Pm.dAt 6))) = p6_27 := by kernel_rfl
theorem ch6_27 : chainP 6 ([4, 2, 1, 5, 3, 0], [2, 3, 3, 1, 1, 1]) ss6_27 = some ([4, 3, 1, 0, 5, 2], [2, 2, 3, 3, 1, 1]) := by kernel_rfl
def ss6_28 : List Pm.St2 := [([4, 3, 1, 2, 0, 5], [2, 2, 3, 2, 2, 1]), ([4, 3, 1, 2, 5, 0], [2, 2, 3, 2, 1, 1]), ([4, 3, 1, 5, 0, 2], [2, 2, 3, 1, 2, 1]), ([4, 3, 1, 5, 2, 0], [2, 2, 3, 1, 1, 1]), ([4, 3, 2, 0, 1, 5], [2, 2, 2, 3, 2, 1]), ([4, 3, 2, 0, 5, 1], [2, 2, 2, 3, 1, 1]), ([4, 3, 2, 1, 0, 5], [2, 2, 2, 2, 2, 1]), ([4, 3, 2, 1, 5, 0], [2, 2, 2, 2, 1, 1]), ([4, 3, 2, 5, 0, 1], [2, 2, 2, 1, 2, 1]), ([4, 3, 2, 5, 1, 0], [2, 2, 2, 1, 1, 1]), ([4, 3, 5, 0, 1, 2], [2, 2, 1, 3, 2, 1]), ([4, 3, 5, 0, 2, 1], [2, 2, 1, 3, 1, 1]), ([4, 3, 5, 1, 0, 2], [2, 2, 1, 2, 2, 1]), ([4, 3, 5, 1, 2, 0], [2, 2, 1, 2, 1, 1]), ([4, 3, 5, 2, 0, 1], [2, 2, 1, 1, 2, 1]), ([4, 3, 5, 2, 1, 0], [2, 2, 1, 1, 1, 1]), ([4, 5, 0, 1, 2, 3], [2, 1, 4, 3, 2, 1]), ([4, 5, 0, 1, 3, 2], [2, 1, 4, 3, 1, 1]), ([4, 5, 0, 2, 1, 3], [2, 1, 4, 2, 2, 1]), ([4, 5, 0, 2, 3, 1], [2, 1, 4, 2, 1, 1])]
def p6_28 : List D := [.tuple [.int 4, .int 3, .int 1, .int 2, .int 0, .int 5], .tuple [.int 4, .int 3, .int 1, .int 2, .int 5, .int 0], .tuple [.int 4, .int 3, .int 1, .int 5, .int 0, .int 2], .tuple [.int 4, .int 3, .int 1, .int 5, .int 2, .int 0], .tuple [.int 4, .int 3, .int 2, .int 0, .int 1, .int 5], .tuple [.int 4, .int 3, .int 2, .int 0, .int 5, .int 1], .tuple [.int 4, .int 3, .int 2, .int 1, .int 0, .int 5], .tuple [.int 4, .int 3, .int 2, .int 1, .int 5, .int 0], .tuple [.int 4, .int 3, .int 2, .int 5, .int 0, .int 1], .tuple [.int 4, .int 3, .int 2, .int 5, .int 1, .int 0], .tuple [.int 4, .int 3, .int 5, .int 0, .int 1, .int 2], .tuple [.int 4, .int 3, .int 5, .int 0, .int 2, .int 1], .tuple [.int 4, .int 3, .int 5, .int 1, .int 0, .int 2], .tuple [.int 4, .int 3, .int 5, .int 1, .int 2, .int 0], .tuple [.int 4, .int 3, .int 5, .int 2, .int 0, .int 1], .tuple [.int 4, .int 3, .int 5, .int 2, .int 1, .int 0], .tuple [.int 4, .int 5, .int 0, .int 1, .int 2, .int 3], .tuple [.int 4, .int 5, .int 0, .int 1, .int 3, .int 2], .tuple [.int 4, .int 5, .int 0, .int 2, .int 1, .int 3], .tuple [.int 4, .int 5, .int 0, .int 2, .int 3, .int 1]]
def f6_28 : List D := [.tuple [.int 4, .int 3, .int 1, .int 2, .int 0, .int 5], .tuple [.int 4, .int 3, .int 1, .int 2, .int 5, .int 0], .tuple [.int 4, .int 3, .int 2, .int 0, .int 1, .int 5], .tuple [.int 4, .int 3, .int 2, .int 1, .int 0, .int 5], .tuple [.int 4, .int 3, .int 2, .int 1, .int 5, .int 0], .tuple [.int 4, .int 3, .int 2, .int 5, .int 0, .int 1], .tuple [.int 4, .int 3, .int 2, .int 5, .int 1, .int 0], .tuple [.int 4, .int 3, .int 5, .int 0, .int 1, .int 2], .tuple [.int 4, .int 3, .int 5, .int 0, .int 2, .int 1], .tuple [.int 4, .int 3, .int 5, .int 1, .int 0, .int 2], .tuple [.int 4, .int 3, .int 5, .int 1, .int 2, .int 0], .tuple [.int 4, .int 3, .int 5, .int 2, .int 0, .int 1], .tuple [.int 4, .int 3, .int 5, .int 2, .int 1, .int 0], .tuple [.int 4, .int 5, .int 0, .int 1, .int 2, .int 3], .tuple [.int 4, .int 5, .int 0, .int 1, .int 3, .int 2], .tuple [.int 4, .int 5, .int 0, .int 2, .int 1, .int 3], .tuple [.int 4, .int 5, .int 0, .int 2, .int 3, .int 1]]
def c6_28 : List Nat := [228477735648041685273141655770896638807608067148748051795280240794845665199277443745430662775983481502717229268787920903009714764716968364890816046505095458063878, 228477735648041685272951122281861234766236559295035255624921952613321723252790598796169737592084992534131630180971292526277199772835116277066304264206909366994438, 3486293573731117202211857025018656918359902271271750190791497189076622648757539424908093127859456392243085713172094779420709359731589876659019486492881192454, 3486293573731105007881582397753165101505238012044043923397628581293452481180357777779283167115362375792070303776234007797566101587965028750048442052031940102, 3486293573731104817348093362349123729997423700652842914497696672425320079983363499733624961427939557877379004696952618060157604472864442886413898774997239302, 3486293573731117011678368034193097340331794390593546397553749141395616704072500148343177853200320927487728881928737396870626887682590615584296990664053622278, 53196618251512222410302465786028520225604818670610470993038953751862996242074701501441048057177038946255336337007526631163063905572368717729768476640774, 3486293573731129206008642706037751164326665197648818367829653933861969014003910660088327216650421042185047058996916162141302223925921004122342642631842334214, 3486293573731117202211859908811585715583871886255330614316040423296794430645641321736296248461815112574784913169946864047623085690672491280827389113123866118, 3486293573731105007881582397753165101505276798403324221476817365727783965387434953092378701762745168245595922001133979040871980117702526591557991682690909702, 3486293573731104816789881222090097638055543016786688306874507809883042608934679745103581749014007047837212019797451587294177563315112550990560614898830018054, 53196618251512408481015884781168471044310032215306948306607386906562240442452420102878315601365278121901893080259679745926640650755986709772703677941254, 811715976738162573399390652252632449731518982919874583230733075480314551833517570845415005871115236301848254075652682514558649502840925876736361990, 3486293573731141400338917377882404998690686008034184430046583747434276478446282050844782984902174769333067451224350307544234608689020460080630448803442722310, 3486293573731129396542137419870006329662506376113533401774457636832533038763978062310088680286792813059840954946134963953839369845232992272572832920377886214, 228477735648042496964156450983876081456507210187507434048405678906700315443594129975040379175277867948450432758134696785966293037446153176974309924804388857447942, 228477735648042484452964866942418930917112972833196534723239584496412837025090704449266531334214709522955515624962224161917264420919165584844328594523310371767814]
theorem sp6_28 : ss6_28.map (fun a => PyData.tuple (a.1.map (Pm.dAt 6))) = p6_28 := by kernel_rfl
theorem ch6_28 : chainP 6 ([4, 3, 1, 0, 5, 2], [2, 2, 3, 3, 1, 1]) ss6_28 = some ([4, 5, 0, 2, 3, 1], [2, 1, 4, 2, 1, 1]) := by kernel_rfl
def ss6_29 : List Pm.St2 := [([4, 5, 0, 3, 1, 2], [2, 1, 4, 1, 2, 1]), ([4, 5, 0, 3, 2, 1], [2, 1, 4, 1, 1, 1]), ([4, 5, 1, 0, 2, 3], [2, 1, 3, 3, 2, 1]), ([4, 5, 1, 0, 3, 2], [2, 1, 3, 3, 1, 1]), ([4, 5, 1, 2, 0, 3], [2, 1, 3, 2, 2, 1]), ([4, 5, 1, 2, 3, 0], [2, 1, 3, 2, 1, 1]), ([4, 5, 1, 3, 0, 2], [2, 1, 3, 1, 2, 1]), ([4, 5, 1, 3, 2, 0], [2, 1, 3, 1, 1, 1]), ([4, 5, 2, 0, 1, 3], [2, 1, 2, 3, 2, 1]), ([4, 5, 2, 0, 3, 1], [2, 1, 2, 3, 1, 1]), ([4, 5, 2, 1, 0, 3], [2, 1, 2, 2, 2, 1]), ([4, 5, 2, 1, 3, 0], [2, 1, 2, 2, 1, 1]), ([4, 5, 2, 3, 0, 1], [2, 1, 2, 1, 2, 1]), ([4, 5, 2, 3, 1, 0], [2, 1, 2, 1, 1, 1]), ([4, 5, 3, 0, 1, 2], [2, 1, 1, 3, 2, 1]), ([4, 5, 3, 0, 2, 1], [2, 1, 1, 3, 1, 1]), ([4, 5, 3, 1, 0, 2], [2, 1, 1, 2, 2, 1]), ([4, 5, 3, 1, 2, 0], [2, 1, 1, 2, 1, 1]), ([4, 5, 3, 2, 0, 1], [2, 1, 1, 1, 2, 1]), ([4, 5, 3, 2, 1, 0], [2, 1, 1, 1, 1, 1])]
def p6_29 : List D := [.tuple [.int 4, .int 5, .int 0, .int 3, .int 1, .int 2], .tuple [.int 4, .int 5, .int 0, .int 3, .int 2, .int 1], .tuple [.int 4, .int 5, .int 1, .int 0, .int 2, .int 3], .tuple [.int 4, .int 5, .int 1, .int 0, .int 3, .int 2], .tuple [.int 4, .int 5, .int 1, .int 2, .int 0, .int 3], .tuple [.int 4, .int 5, .int 1, .int 2, .int 3, .int 0], .tuple [.int 4, .int 5, .int 1, .int 3, .int 0, .int 2], .tuple [.int 4, .int 5, .int 1, .int 3, .int 2, .int 0], .tuple [.int 4, .int 5, .int 2, .int 0, .int 1, .int 3], .tuple [.int 4, .int 5, .int 2, .int 0, .int 3, .int 1], .tuple [.int 4, .int 5, .int 2, .int 1, .int 0, .int 3], .tuple [.int 4, .int 5, .int 2, .int 1, .int 3, .int 0], .tuple [.int 4, .int 5, .int 2, .int 3, .int 0, .int 1], .tuple [.int 4, .int 5, .int 2, .int 3, .int 1, .int 0], .tuple [.int 4, .int 5, .int 3, .int 0, .int 1, .int 2], .tuple [.int 4, .int 5, .int 3, .int 0, .int 2, .int 1], .tuple [.int 4, .int 5, .int 3, .int 1, .int 0, .int 2], .tuple [.int 4, .int 5, .int 3, .int 1, .int 2, .int 0], .tuple [.int 4, .int 5, .int 3, .int 2, .int 0, .int 1], .tuple [.int 4, .int 5, .int 3, .int 2, .int 1, .int 0]]
def f6_29 : List D := [.tuple [.int 4, .int 5, .int 0, .int 3, .int 1, .int 2], .tuple [.int 4, .int 5, .int 0, .int 3, .int 2, .int 1], .tuple [.int 4, .int 5, .int 1, .int 0, .int 2, .int 3], .tuple [.int 4, .int 5, .int 1, .int 0, .int 3, .int 2], .tuple [.int 4, .int 5, .int 1, .int 2, .int 0, .int 3], .tuple [.int 4, .int 5, .int 1, .int 2, .int 3, .int 0], .tuple [.int 4, .int 5, .int 1, .int 3, .int 2, .int 0], .tuple [.int 4, .int 5, .int 2, .int 0, .int 1, .int 3], .tuple [.int 4, .int 5, .int 2, .int 1, .int 0, .int 3], .tuple [.int 4, .int 5, .int 2, .int 1, .int 3, .int 0], .tuple [.int 4, .int 5, .int 2, .int 3, .int 0, .int 1], .tuple [.int 4, .int 5, .int 2, .int 3, .int 1, .int 0], .tuple [.int 4, .int 5, .int 3, .int 0, .int 1, .int 2], .tuple [.int 4, .int 5, .int 3, .int 0, .int 2, .int 1], .tuple [.int 4, .int 5, .int 3, .int 1, .int 0, .int 2], .tuple [.int 4, .int 5, .int 3, .int 1, .int 2, .int 0], .tuple [.int 4, .int 5, .int 3, .int 2, .int 0, .int 1], .tuple [.int 4, .int 5, .int 3, .int 2, .int 1, .int 0]]
def c6_29 : List Nat := [3486293573731129396542134536120400496409135091896502180018361496022966895311828482670262564043253042249790102665682381562461147408625966032580753840413214214, 3486293573731117202211859908811585715583872501902255884850511924574847621981808507157577501492551151472927232144212672148623392790305327748776488291942139398, 3486293573731105007881582397753165101505316200409520615956029611295435265997807577501337102073047893224252284858496871174762529936858516296231592486272108038, 3486293573731105007881582397753165101505277414050249491871304820619724393563761996430445035994144751939896805234337608383471172868733757252333435062944400902, 228477735648041685273141655770896638807608067187534411075722223040740648070443782147732742468684022538182007320219018618542885125904082231048249516076500877968902, 228477735648041685272950750140434395415508598041246208799475126152433910827493892850958788332477814876805509291014208846556775278376646152515725109935799997433350, 3486293573731104816789881222090097638055543016796082333444185460143279607537404603609492058864077717386523761449112250186021424326678564327163770353846978054, 3486293573731117202211857025018656918359902271863583065411922981175721179411199627547190845620356320887850021605123372624884214243113232831265981166151665158, 3486293573731105007881582397753165101505238012044043923397628581293577806666375708795724232870786518895321769324493187684291160100849839761323340622429816326, 3486293573731104816975951935509773002036169911014184592908632295753413235031555673056040118464321645843584020521300654906552205328832667811610124748656608774, 3486293573731117011306226607353746612370540600954897106617678850810625431831952814253966158684151829476540425723390509786590353462071188326978414074724222470, 53196618251512222410302465786028520225604818652262482065118381658976429108837619550857445266487678150770135193356832586366972358659159180055703955310086, 53196618251512594551729304456522082363132350934750896531460058963198214761798739738669879509518467793875675155048976014611793461526377121671582010705414, 53196618251512408481015928784356471490232429533420370375954084167200330883232373670626846227499156516652136728258835707385701982371580187297210287130118, 53196618251512222410302465786028520225605429291538088592129268132210755914749931915993024697016427714438702329688513195705347008273409049275942583010822, 53196618251512219494474505952302515229119003552186314900238122976116292457859360936957711270904808028251392484716992955033894084175264686263820087592454, 811715976738165412613157421587653671940765872428135525153832786967191530560885017629005175811416509768493103169653620566547084538300990458729727494, 12385802867708779501333475528757209010795882918088906604472855765996017684856972272837378906428383900142488881416748528954643464755597973784070]
theorem sp6_29 : ss6_29.map (fun a => PyData.tuple (a.1.map (Pm.dAt 6))) = p6_29 := by kernel_rfl
theorem ch6_29 : chainP 6 ([4, 5, 0, 2, 3, 1], [2, 1, 4, 2, 1, 1]) ss6_29 = some ([4, 5, 3, 2, 1, 0], [2, 1, 1, 1, 1, 1]) := by kernel_rfl
def ss6_30 : List Pm.St2 := [([5, 0, 1, 2, 3, 4], [1, 5, 4, 3, 2, 1]), ([5, 0, 1, 2, 4, 3], [1, 5, 4, 3, 1, 1]), ([5, 0, 1, 3, 2, 4], [1, 5, 4, 2, 2, 1]), ([5, 0, 1, 3, 4, 2], [1, 5, 4, 2, 1, 1]), ([5, 0, 1, 4, 2, 3], [1, 5, 4, 1, 2, 1]), ([5, 0, 1, 4, 3, 2], [1, 5, 4, 1, 1, 1]), ([5, 0, 2, 1, 3, 4], [1, 5, 3, 3, 2, 1]), ([5, 0, 2, 1, 4, 3], [1, 5, 3, 3, 1, 1]), ([5, 0, 2, 3, 1, 4], [1, 5, 3, 2, 2, 1]), ([5, 0, 2, 3, 4, 1], [1, 5, 3, 2, 1, 1]), ([5, 0, 2, 4, 1, 3], [1, 5, 3, 1, 2, 1]), ([5, 0, 2, 4, 3, 1], [1, 5, 3, 1, 1, 1]), ([5, 0, 3, 1, 2, 4], [1, 5, 2, 3, 2, 1]), ([5, 0, 3, 1, 4, 2], [1, 5, 2, 3, 1, 1]), ([5, 0, 3, 2, 1, 4], [1, 5, 2, 2, 2, 1]), ([5, 0, 3, 2, 4, 1], [1, 5, 2, 2, 1, 1]), ([5, 0, 3, 4, 1, 2], [1, 5, 2, 1, 2, 1]), ([5, 0, 3, 4, 2, 1], [1, 5, 2, 1, 1, 1]), ([5, 0, 4, 1, 2, 3], [1, 5, 1, 3, 2, 1]), ([5, 0, 4, 1, 3, 2], [1, 5, 1, 3, 1, 1])]
def p6_30 : List D := [.tuple [.int 5, .int 0, .int 1, .int 2, .int 3, .int 4], .tuple [.int 5, .int 0, .int 1, .int 2, .int 4, .int 3], .tuple [.int 5, .int 0, .int 1, .int 3, .int 2, .int 4], .tuple [.int 5, .int 0, .int 1, .int 3, .int 4, .int 2], .tuple [.int 5, .int 0, .int 1, .int 4, .int 2, .int 3], .tuple [.int 5, .int 0, .int 1, .int 4, .int 3, .int 2], .tuple [.int 5, .int 0, .int 2, .int 1, .int 3, .int 4], .tuple [.int 5, .int 0, .int 2, .int 1, .int 4, .int 3], .tuple [.int 5, .int 0, .int 2, .int 3, .int 1, .int 4], .tuple [.int 5, .int 0, .int 2, .int 3, .int 4, .int 1], .tuple [.int 5, .int 0, .int 2, .int 4, .int 1, .int 3], .tuple [.int 5, .int 0, .int 2, .int 4, .int 3, .int 1], .tuple [.int 5, .int 0, .int 3, .int 1, .int 2, .int 4], .tuple [.int 5, .int 0, .int 3, .int 1, .int 4, .int 2], .tuple [.int 5, .int 0, .int 3, .int 2, .int 1, .int 4], .tuple [.int 5, .int 0, .int 3, .int 2, .int 4, .int 1], .tuple [.int 5, .int 0, .int 3, .int 4, .int 1, .int 2], .tuple [.int 5, .int 0, .int 3, .int 4, .int 2, .int 1], .tuple [.int 5, .int 0, .int 4, .int 1, .int 2, .int 3], .tuple [.int 5, .int 0, .int 4, .int 1, .int 3, .int 2]]
def f6_30 : List D := [.tuple [.int 5, .int 0, .int 1, .int 2, .int 3, .int 4], .tuple [.int 5, .int 0, .int 1, .int 2, .int 4, .int 3], .tuple [.int 5, .int 0, .int 1, .int 3, .int 2, .int 4], .tuple [.int 5, .int 0, .int 1, .int 3, .int 4, .int 2], .tuple [.int 5, .int 0, .int 1, .int 4, .int 2, .int 3], .tuple [.int 5, .int 0, .int 1, .int 4, .int 3, .int 2], .tuple [.int 5, .int 0, .int 2, .int 1, .int 3, .int 4], .tuple [.int 5, .int 0, .int 2, .int 1, .int 4, .int 3], .tuple [.int 5, .int 0, .int 2, .int 3, .int 1, .int 4], .tuple [.int 5, .int 0, .int 2, .int 3, .int 4, .int 1], .tuple [.int 5, .int 0, .int 2, .int 4, .int 3, .int 1], .tuple [.int 5, .int 0, .int 3, .int 1, .int 2, .int 4], .tuple [.int 5, .int 0, .int 3, .int 2, .int 1, .int 4], .tuple [.int 5, .int 0, .int 3, .int 2, .int 4, .int 1], .tuple [.int 5, .int 0, .int 3, .int 4, .int 1, .int 2], .tuple [.int 5, .int 0, .int 3, .int 4, .int 2, .int 1], .tuple [.int 5, .int 0, .int 4, .int 1, .int 2, .int 3], .tuple [.int 5, .int 0, .int 4, .int 1, .int 3, .int 2]]
def c6_30 : List Nat := [3486293573731153785202681040551938848119220435800827448269884801361436234064653465424696696495208562328076764206583854633920480528541588345418269506205517318, 3486293573731141590872414930928426943741141481618642967733185759751709096426006282688940967291588587704890257926371005830619578582832424682265724988753839622, 228477735648043296131785517948600734820764640461890294563076885170331437558532811425788842656532424458440509350204981847917675647288189554779244665820219806451206, 228477735648043283632788078113941223026617878518876311473930065457150376145330030572652048046500466769018552803659527674301356199763283530908021397788416803210758, 3486293573731141590872412047222144074458367912540042222102419326805144613253777258298352748158181385922280568735343799854803124960917128351426834208437700102, 3486293573731129396542137419870006329662506991760467846303395267856246741308205436088085835531721149997788623027563195621149217825859245885477524759629923846, 228477735648042496964156450983876081456509832784421203601965562869488767707370998850341062315953915964030752614344201744434033009919143822408727910825642240116230, 228477735648042496964156450983876081456507250534544929805053995509424030540769455332455440058503315486458491602104863434418989073014297243449241833255143930725894, 14973516883430112261109505519938367056583915790218965013391782969440874475728608183656006698202235879344428252317380530695986456049116755879751051391950509674638738950, 14973516883430112261097006522684600271278030227723232685931889247043501250191649539347301012014543645153166602341968054696075148578080793427199022527607539530465674758, 228477735648042484452964866942418930917112972833812181657684113431907873702872338594245739938048987255004130249883549367639986271056764650169164370213500667430406, 228477735648043296131785328959186566932669077422546819972856598492472862136935933750495217564515305155505560372214005333583222622383921464780720931723837102753286, 14973516883430113081042957171679302874333489940703886814056490564907544597093570811397824676168395019101747416283102495231284183426413530754053665887827590005171553798, 14973516883430112261908673148819261067817604675881515832701491691549726547268666856668837548655284935089588233171070349349893217215489105479719930576002619565427525126, 228477735648043283632788078111057473420784625107575051960462807457170550422438465678888692125707436722642470422235913310035695578837000201621980160548821826668038, 228477735648042496964156450983876081456504627898227340961913437953964273042690334758289644567863878429329402592186090289747555429451619887199784817320606002710022, 3486293573731141590872409207964375428855443361141362138943446772842661466861173281734016213645617477219640219159146929981374556664189845280070404798188750342, 3486293573731129396542137419870006329662506991760449354551394249649023465211812410917049524754096627907595297942843224623688125653344450613068234744500979206]
theorem sp6_30 : ss6_30.map (fun a => PyData.tuple (a.1.map (Pm.dAt 6))) = p6_30 := by kernel_rfl
theorem ch6_30 : chainP 6 ([4, 5, 3, 2, 1, 0], [2, 1, 1, 1, 1, 1]) ss6_30 = some ([5, 0, 4, 1, 3, 2], [1, 5, 1, 3, 1, 1]) := by kernel_rfl
def ss6_31 : List Pm.St2 := [([5, 0, 4, 2, 1, 3], [1, 5, 1, 2, 2, 1]), ([5, 0, 4, 2, 3, 1], [1, 5, 1, 2, 1, 1]), ([5, 0, 4, 3, 1, 2], [1, 5, 1, 1, 2, 1]), ([5, 0, 4, 3, 2, 1], [1, 5, 1, 1, 1, 1]), ([5, 1, 0, 2, 3, 4], [1, 4, 4, 3, 2, 1]), ([5, 1, 0, 2, 4, 3], [1, 4, 4, 3, 1, 1]), ([5, 1, 0, 3, 2, 4], [1, 4, 4, 2, 2, 1]), ([5, 1, 0, 3, 4, 2], [1, 4, 4, 2, 1, 1]), ([5, 1, 0, 4, 2, 3], [1, 4, 4, 1, 2, 1]), ([5, 1, 0, 4, 3, 2], [1, 4, 4, 1, 1, 1]), ([5, 1, 2, 0, 3, 4], [1, 4, 3, 3, 2, 1]), ([5, 1, 2, 0, 4, 3], [1, 4, 3, 3, 1, 1]), ([5, 1, 2, 3, 0, 4], [1, 4, 3, 2, 2, 1]), ([5, 1, 2, 3, 4, 0], [1, 4, 3, 2, 1, 1]), ([5, 1, 2, 4, 0, 3], [1, 4, 3, 1, 2, 1]), ([5, 1, 2, 4, 3, 0], [1, 4, 3, 1, 1, 1]), ([5, 1, 3, 0, 2, 4], [1, 4, 2, 3, 2, 1]), ([5, 1, 3, 0, 4, 2], [1, 4, 2, 3, 1, 1]), ([5, 1, 3, 2, 0, 4], [1, 4, 2, 2, 2, 1]), ([5, 1, 3, 2, 4, 0], [1, 4, 2, 2, 1, 1])]
def p6_31 : List D := [.tuple [.int 5, .int 0, .int 4, .int 2, .int 1, .int 3], .tuple [.int 5, .int 0, .int 4, .int 2, .int 3, .int 1], .tuple [.int 5, .int 0, .int 4, .int 3, .int 1, .int 2], .tuple [.int 5, .int 0, .int 4, .int 3, .int 2, .int 1], .tuple [.int 5, .int 1, .int 0, .int 2, .int 3, .int 4], .tuple [.int 5, .int 1, .int 0, .int 2, .int 4, .int 3], .tuple [.int 5, .int 1, .int 0, .int 3, .int 2, .int 4], .tuple [.int 5, .int 1, .int 0, .int 3, .int 4, .int 2], .tuple [.int 5, .int 1, .int 0, .int 4, .int 2, .int 3], .tuple [.int 5, .int 1, .int 0, .int 4, .int 3, .int 2], .tuple [.int 5, .int 1, .int 2, .int 0, .int 3, .int 4], .tuple [.int 5, .int 1, .int 2, .int 0, .int 4, .int 3], .tuple [.int 5, .int 1, .int 2, .int 3, .int 0, .int 4], .tuple [.int 5, .int 1, .int 2, .int 3, .int 4, .int 0], .tuple [.int 5, .int 1, .int 2, .int 4, .int 0, .int 3], .tuple [.int 5, .int 1, .int 2, .int 4, .int 3, .int 0], .tuple [.int 5, .int 1, .int 3, .int 0, .int 2, .int 4], .tuple [.int 5, .int 1, .int 3, .int 0, .int 4, .int 2], .tuple [.int 5, .int 1, .int 3, .int 2, .int 0, .int 4], .tuple [.int 5, .int 1, .int 3, .int 2, .int 4, .int 0]]
def f6_31 : List D := [.tuple [.int 5, .int 0, .int 4, .int 2, .int 1, .int 3], .tuple [.int 5, .int 0, .int 4, .int 2, .int 3, .int 1], .tuple [.int 5, .int 0, .int 4, .int 3, .int 1, .int 2], .tuple [.int 5, .int 0, .int 4, .int 3, .int 2, .int 1], .tuple [.int 5, .int 1, .int 0, .int 2, .int 3, .int 4], .tuple [.int 5, .int 1, .int 0, .int 2, .int 4, .int 3], .tuple [.int 5, .int 1, .int 0, .int 3, .int 2, .int 4], .tuple [.int 5, .int 1, .int 0, .int 3, .int 4, .int 2], .tuple [.int 5, .int 1, .int 0, .int 4, .int 2, .int 3], .tuple [.int 5, .int 1, .int 0, .int 4, .int 3, .int 2], .tuple [.int 5, .int 1, .int 2, .int 0, .int 3, .int 4], .tuple [.int 5, .int 1, .int 2, .int 0, .int 4, .int 3], .tuple [.int 5, .int 1, .int 2, .int 3, .int 0, .int 4], .tuple [.int 5, .int 1, .int 2, .int 3, .int 4, .int 0], .tuple [.int 5, .int 1, .int 2, .int 4, .int 3, .int 0], .tuple [.int 5, .int 1, .int 3, .int 2, .int 0, .int 4], .tuple [.int 5, .int 1, .int 3, .int 2, .int 4, .int 0]]
def c6_31 : List Nat := [228477735648042496964156450983876081456507250534544319156496046881501785625549020075482637725360489308208310753617286130330684936176518597937132425291518376805894, 228477735648042484452964866942418930917112972833812181648366355894849952526039525782428464352075886320766791227348629818425751525205067296364235138656682711057926, 3486293573731129396542134536120400496409135091905896206728025328623760004358912382479989045774484802740053467630004123153824237171520458851659676538338936326, 3486293573731117202211859908811585715583872501902255884850511924574849611244341125200998663705625181562591984533359583716117358781714428962343427081662498310, 3486293573731105007881582397753165101505356218062632962930014590545534538525370495048507261256127553087443453494786267024836959378395658021286645891154183686, 3486293573731105007881582397753165101505316816056455060344981059946000284472142056956352808897670396730567335522794025450254962972281654846767479908154607110, 228477735648041697796527384019151428092249860607197150699277832724142731924259194098262475130425321959325191348935204575290497686233355530930389356099606629713414, 228477735648041697796527384019151428092249820220758249991628121189161317145085238631276291308960316629532818994054194303007416758121813333163646778996641348584966, 3486293573731105007881582397753165101505316816056445742587444002024823451659300597358234931433974113592706736689021514151270584890692202055161084859921073670, 3486293573731105007881582397753165101505277414050249491871304820619726382826294614021553349623952393656334680805359508056887090429544877961808707533601637894, 228477735648041685273141655770896638807608067227552064188069197025719898169716309710650289638843205617841870511387654907938735200333523768189974571129905760044550, 228477735648041685273141655770896638807608067188150058010166611992189298635462256482212197477489100812288011803577398301816584135276675487534825608510782619125254, 14973516883430059886048100361203508537950771481231151557535514214499893759240739034407998069245042302768406841416309945473831781106461785129787405859624724360805615110, 14973516883430059886048100170483948789127054745742592147110075708841151751936323656127431551517748742737700045084611773946006386948224223360394954026520785836851987974, 228477735648041685272950750140434395415508598041246218193501835814130557688006664739300073717542633772541090241330989431483016678068375570752879774805378501838342, 14973516883430059886060611552601482120895402288660352323066143592674097397030935533710512144822172218428946332289694989005376053013879836291208937239823767440374236678, 14973516883430059886048112555533783209795425315595251633079012573902678774358616237039256880126508008503348251957007779260241069768902456521602269071268996090549372422]
theorem sp6_31 : ss6_31.map (fun a => PyData.tuple (a.1.map (Pm.dAt 6))) = p6_31 := by kernel_rfl
theorem ch6_31 : chainP 6 ([5, 0, 4, 1, 3, 2], [1, 5, 1, 3, 1, 1]) ss6_31 = some ([5, 1, 3, 2, 4, 0], [1, 4, 2, 2, 1, 1]) := by kernel_rfl
def ss6_32 : List Pm.St2 := [([5, 1, 3, 4, 0, 2], [1, 4, 2, 1, 2, 1]), ([5, 1, 3, 4, 2, 0], [1, 4, 2, 1, 1, 1]), ([5, 1, 4, 0, 2, 3], [1, 4, 1, 3, 2, 1]), ([5, 1, 4, 0, 3, 2], [1, 4, 1, 3, 1, 1]), ([5, 1, 4, 2, 0, 3], [1, 4, 1, 2, 2, 1]), ([5, 1, 4, 2, 3, 0], [1, 4, 1, 2, 1, 1]), ([5, 1, 4, 3, 0, 2], [1, 4, 1, 1, 2, 1]), ([5, 1, 4, 3, 2, 0], [1, 4, 1, 1, 1, 1]), ([5, 2, 0, 1, 3, 4], [1, 3, 4, 3, 2, 1]), ([5, 2, 0, 1, 4, 3], [1, 3, 4, 3, 1, 1]), ([5, 2, 0, 3, 1, 4], [1, 3, 4, 2, 2, 1]), ([5, 2, 0, 3, 4, 1], [1, 3, 4, 2, 1, 1]), ([5, 2, 0, 4, 1, 3], [1, 3, 4, 1, 2, 1]), ([5, 2, 0, 4, 3, 1], [1, 3, 4, 1, 1, 1]), ([5, 2, 1, 0, 3, 4], [1, 3, 3, 3, 2, 1]), ([5, 2, 1, 0, 4, 3], [1, 3, 3, 3, 1, 1]), ([5, 2, 1, 3, 0, 4], [1, 3, 3, 2, 2, 1]), ([5, 2, 1, 3, 4, 0], [1, 3, 3, 2, 1, 1]), ([5, 2, 1, 4, 0, 3], [1, 3, 3, 1, 2, 1]), ([5, 2, 1, 4, 3, 0], [1, 3, 3, 1, 1, 1])]
def p6_32 : List D := [.tuple [.int 5, .int 1, .int 3, .int 4, .int 0, .int 2], .tuple [.int 5, .int 1, .int 3, .int 4, .int 2, .int 0], .tuple [.int 5, .int 1, .int 4, .int 0, .int 2, .int 3], .tuple [.int 5, .int 1, .int 4, .int 0, .int 3, .int 2], .tuple [.int 5, .int 1, .int 4, .int 2, .int 0, .int 3], .tuple [.int 5, .int 1, .int 4, .int 2, .int 3, .int 0], .tuple [.int 5, .int 1, .int 4, .int 3, .int 0, .int 2], .tuple [.int 5, .int 1, .int 4, .int 3, .int 2, .int 0], .tuple [.int 5, .int 2, .int 0, .int 1, .int 3, .int 4], .tuple [.int 5, .int 2, .int 0, .int 1, .int 4, .int 3], .tuple [.int 5, .int 2, .int 0, .int 3, .int 1, .int 4], .tuple [.int 5, .int 2, .int 0, .int 3, .int 4, .int 1], .tuple [.int 5, .int 2, .int 0, .int 4, .int 1, .int 3], .tuple [.int 5, .int 2, .int 0, .int 4, .int 3, .int 1], .tuple [.int 5, .int 2, .int 1, .int 0, .int 3, .int 4], .tuple [.int 5, .int 2, .int 1, .int 0, .int 4, .int 3], .tuple [.int 5, .int 2, .int 1, .int 3, .int 0, .int 4], .tuple [.int 5, .int 2, .int 1, .int 3, .int 4, .int 0], .tuple [.int 5, .int 2, .int 1, .int 4, .int 0, .int 3], .tuple [.int 5, .int 2, .int 1, .int 4, .int 3, .int 0]]
def f6_32 : List D := [.tuple [.int 5, .int 1, .int 3, .int 4, .int 2, .int 0], .tuple [.int 5, .int 1, .int 4, .int 2, .int 0, .int 3], .tuple [.int 5, .int 1, .int 4, .int 2, .int 3, .int 0], .tuple [.int 5, .int 1, .int 4, .int 3, .int 2, .int 0], .tuple [.int 5, .int 2, .int 0, .int 1, .int 3, .int 4], .tuple [.int 5, .int 2, .int 0, .int 1, .int 4, .int 3], .tuple [.int 5, .int 2, .int 1, .int 0, .int 3, .int 4], .tuple [.int 5, .int 2, .int 1, .int 0, .int 4, .int 3], .tuple [.int 5, .int 2, .int 1, .int 3, .int 0, .int 4], .tuple [.int 5, .int 2, .int 1, .int 3, .int 4, .int 0], .tuple [.int 5, .int 2, .int 1, .int 4, .int 3, .int 0]]
def c6_32 : List Nat := [228477735648041685273141655770896638807608067148131803652426695907021521234377385860520098245824443869378914488484849698999956008531132258560441203602448072443398, 228477735648041685273141655770896638807608067188150058000848854455131377458629443640752599359611637116004873942978564529305295805451024328729532470201708410439174, 228477735648041685272950750140434395415508598041246218193501693636433764201660582695647097344280337058312326155365098946348543099851347643842691532812736365200902, 3486293573731104816789881222090097638055543016796082333444185460143279607567758340984638407562710984715041161665668020105919264364865476961238848155689551366, 3486293573731117202211857025018656918359902272474203993169506117908806865952035043079852506970063786804024503761872228093077747576490172212923097250139604486, 3486293573731117202211857025018656918359902271872977092121582541802442446638118738218130685412241333645885802951074958923224830228296342631301986283361273350, 3486293573731105007881582397753165101505238012044043923397628581293707110677399124009443107013715976440255327640230996959701117471230812569472435021253314054, 3486293573731105007881582397753165101505238012044043923397628581293579795928908325934519697917327772238531265699534581208418718913249757499556873549319112198, 228477735648041685285335986045568483461442431288225601480860126134495689900332043612815858922551926311462667206662765655284698276276183525062103936664041744107014, 228477735648041685285145266485819659744706942847019390950690431670398485559881802853485037230715623603722388108757373824541618085197984963131376263984141597804038, 3486293573731104816975951935509773002036169911014184592908632295753413235061909410431179565416608122608313987466398300980800634624282598759326336474214172166]
theorem sp6_32 : ss6_32.map (fun a => PyData.tuple (a.1.map (Pm.dAt 6))) = p6_32 := by kernel_rfl
theorem ch6_32 : chainP 6 ([5, 1, 3, 2, 4, 0], [1, 4, 2, 2, 1, 1]) ss6_32 = some ([5, 2, 1, 4, 3, 0], [1, 3, 3, 1, 1, 1]) := by kernel_rfl
def ss6_33 : List Pm.St2 := [([5, 2, 3, 0, 1, 4], [1, 3, 2, 3, 2, 1]), ([5, 2, 3, 0, 4, 1], [1, 3, 2, 3, 1, 1]), ([5, 2, 3, 1, 0, 4], [1, 3, 2, 2, 2, 1]), ([5, 2, 3, 1, 4, 0], [1, 3, 2, 2, 1, 1]), ([5, 2, 3, 4, 0, 1], [1, 3, 2, 1, 2, 1]), ([5, 2, 3, 4, 1, 0], [1, 3, 2, 1, 1, 1]), ([5, 2, 4, 0, 1, 3], [1, 3, 1, 3, 2, 1]), ([5, 2, 4, 0, 3, 1], [1, 3, 1, 3, 1, 1]), ([5, 2, 4, 1, 0, 3], [1, 3, 1, 2, 2, 1]), ([5, 2, 4, 1, 3, 0], [1, 3, 1, 2, 1, 1]), ([5, 2, 4, 3, 0, 1], [1, 3, 1, 1, 2, 1]), ([5, 2, 4, 3, 1, 0], [1, 3, 1, 1, 1, 1]), ([5, 3, 0, 1, 2, 4], [1, 2, 4, 3, 2, 1]), ([5, 3, 0, 1, 4, 2], [1, 2, 4, 3, 1, 1]), ([5, 3, 0, 2, 1, 4], [1, 2, 4, 2, 2, 1]), ([5, 3, 0, 2, 4, 1], [1, 2, 4, 2, 1, 1]), ([5, 3, 0, 4, 1, 2], [1, 2, 4, 1, 2, 1]), ([5, 3, 0, 4, 2, 1], [1, 2, 4, 1, 1, 1]), ([5, 3, 1, 0, 2, 4], [1, 2, 3, 3, 2, 1]), ([5, 3, 1, 0, 4, 2], [1, 2, 3, 3, 1, 1])]
def p6_33 : List D := [.tuple [.int 5, .int 2, .int 3, .int 0, .int 1, .int 4], .tuple [.int 5, .int 2, .int 3, .int 0, .int 4, .int 1], .tuple [.int 5, .int 2, .int 3, .int 1, .int 0, .int 4], .tuple [.int 5, .int 2, .int 3, .int 1, .int 4, .int 0], .tuple [.int 5, .int 2, .int 3, .int 4, .int 0, .int 1], .tuple [.int 5, .int 2, .int 3, .int 4, .int 1, .int 0], .tuple [.int 5, .int 2, .int 4, .int 0, .int 1, .int 3], .tuple [.int 5, .int 2, .int 4, .int 0, .int 3, .int 1], .tuple [.int 5, .int 2, .int 4, .int 1, .int 0, .int 3], .tuple [.int 5, .int 2, .int 4, .int 1, .int 3, .int 0], .tuple [.int 5, .int 2, .int 4, .int 3, .int 0, .int 1], .tuple [.int 5, .int 2, .int 4, .int 3, .int 1, .int 0], .tuple [.int 5, .int 3, .int 0, .int 1, .int 2, .int 4], .tuple [.int 5, .int 3, .int 0, .int 1, .int 4, .int 2], .tuple [.int 5, .int 3, .int 0, .int 2, .int 1, .int 4], .tuple [.int 5, .int 3, .int 0, .int 2, .int 4, .int 1], .tuple [.int 5, .int 3, .int 0, .int 4, .int 1, .int 2], .tuple [.int 5, .int 3, .int 0, .int 4, .int 2, .int 1], .tuple [.int 5, .int 3, .int 1, .int 0, .int 2, .int 4], .tuple [.int 5, .int 3, .int 1, .int 0, .int 4, .int 2]]
def f6_33 : List D := [.tuple [.int 5, .int 2, .int 3, .int 0, .int 1, .int 4], .tuple [.int 5, .int 2, .int 3, .int 1, .int 0, .int 4], .tuple [.int 5, .int 2, .int 3, .int 1, .int 4, .int 0], .tuple [.int 5, .int 2, .int 3, .int 4, .int 0, .int 1], .tuple [.int 5, .int 2, .int 3, .int 4, .int 1, .int 0], .tuple [.int 5, .int 2, .int 4, .int 3, .int 0, .int 1], .tuple [.int 5, .int 2, .int 4, .int 3, .int 1, .int 0], .tuple [.int 5, .int 3, .int 0, .int 1, .int 2, .int 4], .tuple [.int 5, .int 3, .int 0, .int 2, .int 1, .int 4], .tuple [.int 5, .int 3, .int 0, .int 2, .int 4, .int 1], .tuple [.int 5, .int 3, .int 1, .int 0, .int 2, .int 4]]
def c6_33 : List Nat := [228477735648042484452964866939535137988315748824180747400223958749861881386225400470363458837185924004040469514688792816376673383870751522834442286737107712345606, 228477735648041697796527384019151428092247237931478156877469991593749987986624011568838149896548725373989032609460181862989897375005069547133128069689722144163334, 228477735648041685297530316320240328115276795466488307992791809598959842430524997892092484295237096242278407606498182764284601859227737381361584739432908162729478, 228477735648042484452774147379830892753373740089404047431815537388584131376431962305290226092637815491667508804016051766005406094336713110982122634560746014770694, 3486293573731105007881582397753165101505237395185270824195440729747549997952364533155169297625758459184215215464736571815496642480713479882380088537537447430, 3486293573731117011306226607353746612370540600954897249959150860996792221402070412506997636648015841393849355712707244824321873889625299732500016855876240902, 53196618251512222410302465786028520225604818652262482065118381658976429109300780826723220519055526001794457176094465224135993255517555991143351541171718, 3486293573731129396542131696862631189750241750859844072421702361211411843465943857351431380126038477218386999472639016788335255515144589569467705397418001926, 228477735648042496964156450983876081456504668284665029784930016295756817153165850736851768923455195717707359964739802672227981704198550293881736001215219840189958, 228477735648042484465159197217090775570947336973289731315454209265388997778289766848327459320780996389388737355178602156277582452692984128231302267978322928862726, 3486293573731105007881582397753165101505277414050240173973783716312564101602074167640299209511279425344290265061017430547916856151977210573716662252109956614]
theorem sp6_33 : ss6_33.map (fun a => PyData.tuple (a.1.map (Pm.dAt 6))) = p6_33 := by kernel_rfl
theorem ch6_33 : chainP 6 ([5, 2, 1, 4, 3, 0], [1, 3, 3, 1, 1, 1]) ss6_33 = some ([5, 3, 1, 0, 4, 2], [1, 2, 3, 3, 1, 1]) := by kernel_rfl
def ss6_34 : List Pm.St2 := [([5, 3, 1, 2, 0, 4], [1, 2, 3, 2, 2, 1]), ([5, 3, 1, 2, 4, 0], [1, 2, 3, 2, 1, 1]), ([5, 3, 1, 4, 0, 2], [1, 2, 3, 1, 2, 1]), ([5, 3, 1, 4, 2, 0], [1, 2, 3, 1, 1, 1]), ([5, 3, 2, 0, 1, 4], [1, 2, 2, 3, 2, 1]), ([5, 3, 2, 0, 4, 1], [1, 2, 2, 3, 1, 1]), ([5, 3, 2, 1, 0, 4], [1, 2, 2, 2, 2, 1]), ([5, 3, 2, 1, 4, 0], [1, 2, 2, 2, 1, 1]), ([5, 3, 2, 4, 0, 1], [1, 2, 2, 1, 2, 1]), ([5, 3, 2, 4, 1, 0], [1, 2, 2, 1, 1, 1]), ([5, 3, 4, 0, 1, 2], [1, 2, 1, 3, 2, 1]), ([5, 3, 4, 0, 2, 1], [1, 2, 1, 3, 1, 1]), ([5, 3, 4, 1, 0, 2], [1, 2, 1, 2, 2, 1]), ([5, 3, 4, 1, 2, 0], [1, 2, 1, 2, 1, 1]), ([5, 3, 4, 2, 0, 1], [1, 2, 1, 1, 2, 1]), ([5, 3, 4, 2, 1, 0], [1, 2, 1, 1, 1, 1]), ([5, 4, 0, 1, 2, 3], [1, 1, 4, 3, 2, 1]), ([5, 4, 0, 1, 3, 2], [1, 1, 4, 3, 1, 1]), ([5, 4, 0, 2, 1, 3], [1, 1, 4, 2, 2, 1]), ([5, 4, 0, 2, 3, 1], [1, 1, 4, 2, 1, 1])]
def p6_34 : List D := [.tuple [.int 5, .int 3, .int 1, .int 2, .int 0, .int 4], .tuple [.int 5, .int 3, .int 1, .int 2, .int 4, .int 0], .tuple [.int 5, .int 3, .int 1, .int 4, .int 0, .int 2], .tuple [.int 5, .int 3, .int 1, .int 4, .int 2, .int 0], .tuple [.int 5, .int 3, .int 2, .int 0, .int 1, .int 4], .tuple [.int 5, .int 3, .int 2, .int 0, .int 4, .int 1], .tuple [.int 5, .int 3, .int 2, .int 1, .int 0, .int 4], .tuple [.int 5, .int 3, .int 2, .int 1, .int 4, .int 0], .tuple [.int 5, .int 3, .int 2, .int 4, .int 0, .int 1], .tuple [.int 5, .int 3, .int 2, .int 4, .int 1, .int 0], .tuple [.int 5, .int 3, .int 4, .int 0, .int 1, .int 2], .tuple [.int 5, .int 3, .int 4, .int 0, .int 2, .int 1], .tuple [.int 5, .int 3, .int 4, .int 1, .int 0, .int 2], .tuple [.int 5, .int 3, .int 4, .int 1, .int 2, .int 0], .tuple [.int 5, .int 3, .int 4, .int 2, .int 0, .int 1], .tuple [.int 5, .int 3, .int 4, .int 2, .int 1, .int 0], .tuple [.int 5, .int 4, .int 0, .int 1, .int 2, .int 3], .tuple [.int 5, .int 4, .int 0, .int 1, .int 3, .int 2], .tuple [.int 5, .int 4, .int 0, .int 2, .int 1, .int 3], .tuple [.int 5, .int 4, .int 0, .int 2, .int 3, .int 1]]
def f6_34 : List D := [.tuple [.int 5, .int 3, .int 1, .int 2, .int 0, .int 4], .tuple [.int 5, .int 3, .int 1, .int 2, .int 4, .int 0], .tuple [.int 5, .int 3, .int 2, .int 0, .int 1, .int 4], .tuple [.int 5, .int 3, .int 2, .int 1, .int 0, .int 4], .tuple [.int 5, .int 3, .int 2, .int 1, .int 4, .int 0], .tuple [.int 5, .int 3, .int 2, .int 4, .int 0, .int 1], .tuple [.int 5, .int 3, .int 2, .int 4, .int 1, .int 0], .tuple [.int 5, .int 3, .int 4, .int 0, .int 1, .int 2], .tuple [.int 5, .int 3, .int 4, .int 0, .int 2, .int 1], .tuple [.int 5, .int 3, .int 4, .int 1, .int 0, .int 2], .tuple [.int 5, .int 3, .int 4, .int 1, .int 2, .int 0], .tuple [.int 5, .int 3, .int 4, .int 2, .int 0, .int 1], .tuple [.int 5, .int 3, .int 4, .int 2, .int 1, .int 0], .tuple [.int 5, .int 4, .int 0, .int 1, .int 2, .int 3], .tuple [.int 5, .int 4, .int 0, .int 1, .int 3, .int 2], .tuple [.int 5, .int 4, .int 0, .int 2, .int 1, .int 3], .tuple [.int 5, .int 4, .int 0, .int 2, .int 3, .int 1]]
def c6_34 : List Nat := [228477735648041685273141655770896638807608067148748051795280240794845665199279386414322881423889714421316625526506913645006237813211394830957101097662599607485958, 228477735648041685272950936211147815090872578668140436295761158081133387299367166764321522193072131534428642480702297129599101702659616814867738723634324579943942, 3486293573731117202211857025018656918359902271271750190791497189076622650700208317126741034092374991540977878497767269735483954352987793163697579124637173254, 3486293573731105007881582397753165101505238012044043923397628581293452481180357777779283167115773751931399105791824141130326952839967901776861847055147337222, 3486293573731104817162022648929448366016796805833513753703164484089366656551302008743381303670909695782975831078029431991283359507200709934628778026968942086, 3486293573731117011492297320773421976351167495774217236759216953059663280640468300127778840339321224500124392443165499900217354370843550881347610548208272902, 53196618251512222410302465786028520225604818661436476529078667705419712660866353738254788100503914547085952283228760400165462263061746485080546397783558, 3486293573731129205822571992618075800346038302829489207175105791911618102041390662755475895325589458878986635301652839302963112148303701963315173286016845318, 3486293573731117202211859908811585715583871885654103713125939116957087397867600685502966160837315391057618843954853279235030109767974275927032837163150870022, 3486293573731105007881582397753165101505276797802097320286716059388076932609394316859048614138245446728431355163873588078573151128755347157239054632797734406, 3486293573731104816789881222090097638055543016786679132880043849596996165651098537208131411335668050954254297906449314974906569437984022021969141421792691718, 53196618251512408481015884781168471044310032215306808322561000793799080602310336887959514616197942493535887665553167723856958617673639782344629776942598, 811715976738162573399390652252632449731518982919874583230733075480314551381204722262148617497791077573162751349392446902869698181174982341533500934, 53196618251512780622442724131886062831957999748250956444198678760419215655784340949879948446425730631424321775424245271918096680708232566482703439234566, 53196618251512594551729391782684422754860031002203982242962166537221953013402517814784317919074036581099859324826064908742648437699487925702732863112710, 3486293573731117202211859908811585715583911903908433787435545488614367447428141038865787512445366117049772891943745765147778761045433573305017622997867300358, 3486293573731117011306226607397749800370986523953432947235385510089608565472517037603137890200674427892619556626540751153762556170063788851467665415122322950]
theorem sp6_34 : ss6_34.map (fun a => PyData.tuple (a.1.map (Pm.dAt 6))) = p6_34 := by kernel_rfl
theorem ch6_34 : chainP 6 ([5, 3, 1, 0, 4, 2], [1, 2, 3, 3, 1, 1]) ss6_34 = some ([5, 4, 0, 2, 3, 1], [1, 1, 4, 2, 1, 1]) := by kernel_rfl
def ss6_35 : List Pm.St2 := [([5, 4, 0, 3, 1, 2], [1, 1, 4, 1, 2, 1]), ([5, 4, 0, 3, 2, 1], [1, 1, 4, 1, 1, 1]), ([5, 4, 1, 0, 2, 3], [1, 1, 3, 3, 2, 1]), ([5, 4, 1, 0, 3, 2], [1, 1, 3, 3, 1, 1]), ([5, 4, 1, 2, 0, 3], [1, 1, 3, 2, 2, 1]), ([5, 4, 1, 2, 3, 0], [1, 1, 3, 2, 1, 1]), ([5, 4, 1, 3, 0, 2], [1, 1, 3, 1, 2, 1]), ([5, 4, 1, 3, 2, 0], [1, 1, 3, 1, 1, 1]), ([5, 4, 2, 0, 1, 3], [1, 1, 2, 3, 2, 1]), ([5, 4, 2, 0, 3, 1], [1, 1, 2, 3, 1, 1]), ([5, 4, 2, 1, 0, 3], [1, 1, 2, 2, 2, 1]), ([5, 4, 2, 1, 3, 0], [1, 1, 2, 2, 1, 1]), ([5, 4, 2, 3, 0, 1], [1, 1, 2, 1, 2, 1]), ([5, 4, 2, 3, 1, 0], [1, 1, 2, 1, 1, 1]), ([5, 4, 3, 0, 1, 2], [1, 1, 1, 3, 2, 1]), ([5, 4, 3, 0, 2, 1], [1, 1, 1, 3, 1, 1]), ([5, 4, 3, 1, 0, 2], [1, 1, 1, 2, 2, 1]), ([5, 4, 3, 1, 2, 0], [1, 1, 1, 2, 1, 1]), ([5, 4, 3, 2, 0, 1], [1, 1, 1, 1, 2, 1]), ([5, 4, 3, 2, 1, 0], [1, 1, 1, 1, 1, 1])]
def p6_35 : List D := [.tuple [.int 5, .int 4, .int 0, .int 3, .int 1, .int 2], .tuple [.int 5, .int 4, .int 0, .int 3, .int 2, .int 1], .tuple [.int 5, .int 4, .int 1, .int 0, .int 2, .int 3], .tuple [.int 5, .int 4, .int 1, .int 0, .int 3, .int 2], .tuple [.int 5, .int 4, .int 1, .int 2, .int 0, .int 3], .tuple [.int 5, .int 4, .int 1, .int 2, .int 3, .int 0], .tuple [.int 5, .int 4, .int 1, .int 3, .int 0, .int 2], .tuple [.int 5, .int 4, .int 1, .int 3, .int 2, .int 0], .tuple [.int 5, .int 4, .int 2, .int 0, .int 1, .int 3], .tuple [.int 5, .int 4, .int 2, .int 0, .int 3, .int 1], .tuple [.int 5, .int 4, .int 2, .int 1, .int 0, .int 3], .tuple [.int 5, .int 4, .int 2, .int 1, .int 3, .int 0], .tuple [.int 5, .int 4, .int 2, .int 3, .int 0, .int 1], .tuple [.int 5, .int 4, .int 2, .int 3, .int 1, .int 0], .tuple [.int 5, .int 4, .int 3, .int 0, .int 1, .int 2], .tuple [.int 5, .int 4, .int 3, .int 0, .int 2, .int 1], .tuple [.int 5, .int 4, .int 3, .int 1, .int 0, .int 2], .tuple [.int 5, .int 4, .int 3, .int 1, .int 2, .int 0], .tuple [.int 5, .int 4, .int 3, .int 2, .int 0, .int 1], .tuple [.int 5, .int 4, .int 3, .int 2, .int 1, .int 0]]
def f6_35 : List D := [.tuple [.int 5, .int 4, .int 0, .int 3, .int 1, .int 2], .tuple [.int 5, .int 4, .int 0, .int 3, .int 2, .int 1], .tuple [.int 5, .int 4, .int 1, .int 0, .int 2, .int 3], .tuple [.int 5, .int 4, .int 1, .int 0, .int 3, .int 2], .tuple [.int 5, .int 4, .int 1, .int 2, .int 0, .int 3], .tuple [.int 5, .int 4, .int 1, .int 2, .int 3, .int 0], .tuple [.int 5, .int 4, .int 1, .int 3, .int 2, .int 0], .tuple [.int 5, .int 4, .int 2, .int 0, .int 1, .int 3], .tuple [.int 5, .int 4, .int 2, .int 1, .int 0, .int 3], .tuple [.int 5, .int 4, .int 2, .int 1, .int 3, .int 0], .tuple [.int 5, .int 4, .int 2, .int 3, .int 0, .int 1], .tuple [.int 5, .int 4, .int 2, .int 3, .int 1, .int 0], .tuple [.int 5, .int 4, .int 3, .int 0, .int 1, .int 2], .tuple [.int 5, .int 4, .int 3, .int 0, .int 2, .int 1], .tuple [.int 5, .int 4, .int 3, .int 1, .int 0, .int 2], .tuple [.int 5, .int 4, .int 3, .int 1, .int 2, .int 0], .tuple [.int 5, .int 4, .int 3, .int 2, .int 0, .int 1], .tuple [.int 5, .int 4, .int 3, .int 2, .int 1, .int 0]]
def c6_35 : List Nat := [53196618251512594551729347780157478277727281065458621312040398240021486388506903761060791001009797145976988293809047975886763265772013880233191425836550, 53196618251512408481015928784356471490232429533420652539833250802228540210636165349623442902479723284941496713032490219943158807240243973051555372205574, 53196618251512222410302465786028520225606030518439278693402135390400553318690120483918844369867706333433734973129899734837265281111691809082402444543494, 53196618251512222410302465786028520225605429291538230771962048654475805402011640380070822035541790641292344177099663123434319984959782178266935240033798, 3486293573731104816789881222090097638055543017397309234492106900230015532315675018553028491669690350218102251426652138502504905740469075882503768191334221318, 3486293573731104816786968233344030691764962738666476718040490015414702127138268006540905523633264615815885480398594784331023242461012936172893948032265356806, 53196618251512219494474505952302515229119003552186314902407615053455804558834203187147898004872986210669099579404202385264431455619616591729834267641350, 53196618251512408481015884781168471044310032224624284240408399124282167061707688671714042301614494431644639764805068381173560530462623224805682751866374, 53196618251512222410302465786028520225604828064636900686609322834679867491590548990419502169199685733367890869410475382558444676410314501803281989633542, 53196618251512219497313719719082229645327299667574838148630253536276447068205404815243204499580681618789781106037133653511110069753691639961884685633030, 53196618251512405568027139394435830877236032119062763213487986626240653343372979320214402032120905944090508332777921386717181581273483984498807850534406, 811715976738162573399390652252632449731518839298438752214330774825690141438305371394551374158992986198117642801110205022776482836504905948598765062, 811715976738168251826924201301911657152288069683088664530599125280329414541943224547766590419960071161202421800935919631144680961944009103294989830, 811715976738165412613158093023017448276251671347356725707307192492680830134514388221626503257084136647041416236132560388704744853953587983067514374, 811715976738162573399390652252632449731528156914338510011738100161907286303910723752726638595177264054673687449601971164545653351959956679221970438, 811715976738162528907386870610084766069320732912999189761934249513493232084035766666228052116536408674192127023459739278151789964046400790370584070, 12385802867708822824297446008112391234447721442079704668484997359728874672972904935292934880576585849476124517507562905092926923249383838713350, 188992353328075859090171440563311905071958662690565591498914425140320094068252140393636763098577983638861813366435430242605286675823592966]
theorem sp6_35 : ss6_35.map (fun a => PyData.tuple (a.1.map (Pm.dAt 6))) = p6_35 := by kernel_rfl
theorem ch6_35 : chainP 6 ([5, 4, 0, 2, 3, 1], [1, 1, 4, 2, 1, 1]) ss6_35 = some ([5, 4, 3, 2, 1, 0], [1, 1, 1, 1, 1, 1]) := by kernel_rfl
def p6 : List D := p6_0 ++ (p6_1 ++ (p6_2 ++ (p6_3 ++ (p6_4 ++ (p6_5 ++ (p6_6 ++ (p6_7 ++ (p6_8 ++ (p6_9 ++ (p6_10 ++ (p6_11 ++ (p6_12 ++ (p6_13 ++ (p6_14 ++ (p6_15 ++ (p6_16 ++ (p6_17 ++ (p6_18 ++ (p6_19 ++ (p6_20 ++ (p6_21 ++ (p6_22 ++ (p6_23 ++ (p6_24 ++ (p6_25 ++ (p6_26 ++ (p6_27 ++ (p6_28 ++ (p6_29 ++ (p6_30 ++ (p6_31 ++ (p6_32 ++ (p6_33 ++ (p6_34 ++ (p6_35 ++ ([]))))))))))))))))))))))))))))))))))))
def ords6 : List D := f6_0 ++ (f6_1 ++ (f6_2 ++ (f6_3 ++ (f6_4 ++ (f6_5 ++ (f6_6 ++ (f6_7 ++ (f6_8 ++ (f6_9 ++ (f6_10 ++ (f6_11 ++ (f6_12 ++ (f6_13 ++ (f6_14 ++ (f6_15 ++ (f6_16 ++ (f6_17 ++ (f6_18 ++ (f6_19 ++ (f6_20 ++ (f6_21 ++ (f6_22 ++ (f6_23 ++ (f6_24 ++ (f6_25 ++ (f6_26 ++ (f6_27 ++ (f6_28 ++ (f6_29 ++ (f6_30 ++ (f6_31 ++ (f6_32 ++ (f6_33 ++ (f6_34 ++ (f6_35 ++ ([]))))))))))))))))))))))))))))))))))))
def codes6 : List Nat := c6_0 ++ (c6_1 ++ (c6_2 ++ (c6_3 ++ (c6_4 ++ (c6_5 ++ (c6_6 ++ (c6_7 ++ (c6_8 ++ (c6_9 ++ (c6_10 ++ (c6_11 ++ (c6_12 ++ (c6_13 ++ (c6_14 ++ (c6_15 ++ (c6_16 ++ (c6_17 ++ (c6_18 ++ (c6_19 ++ (c6_20 ++ (c6_21 ++ (c6_22 ++ (c6_23 ++ (c6_24 ++ (c6_25 ++ (c6_26 ++ (c6_27 ++ (c6_28 ++ (c6_29 ++ (c6_30 ++ (c6_31 ++ (c6_32 ++ (c6_33 ++ (c6_34 ++ (c6_35 ++ ([]))))))))))))))))))))))))))))))))))))
def rr6 : List Pm.St2 := ss6_1 ++ (ss6_2 ++ (ss6_3 ++ (ss6_4 ++ (ss6_5 ++ (ss6_6 ++ (ss6_7 ++ (ss6_8 ++ (ss6_9 ++ (ss6_10 ++ (ss6_11 ++ (ss6_12 ++ (ss6_13 ++ (ss6_14 ++ (ss6_15 ++ (ss6_16 ++ (ss6_17 ++ (ss6_18 ++ (ss6_19 ++ (ss6_20 ++ (ss6_21 ++ (ss6_22 ++ (ss6_23 ++ (ss6_24 ++ (ss6_25 ++ (ss6_26 ++ (ss6_27 ++ (ss6_28 ++ (ss6_29 ++ (ss6_30 ++ (ss6_31 ++ (ss6_32 ++ (ss6_33 ++ (ss6_34 ++ (ss6_35 ++ ([])))))))))))))))))))))))))))))))))))
def st6 : SD := [some (.imm (.int 6)), none]
def su6 : SD := [some (.imm (.int 6)), none, none, some (.imm (.list p6)), some (.imm (.list p6)), some (.imm (.int 5))]
theorem ch6 : chainP 6 ([0, 1, 2, 3, 4, 5], [6, 5, 4, 3, 2, 1]) (tt6_0 ++ rr6) = some ([5, 4, 3, 2, 1, 0], [1, 1, 1, 1, 1, 1]) := (chainP_app ch6_0 (chainP_app ch6_1 (chainP_app ch6_2 (chainP_app ch6_3 (chainP_app ch6_4 (chainP_app ch6_5 (chainP_app ch6_6 (chainP_app ch6_7 (chainP_app ch6_8 (chainP_app ch6_9 (chainP_app ch6_10 (chainP_app ch6_11 (chainP_app ch6_12 (chainP_app ch6_13 (chainP_app ch6_14 (chainP_app ch6_15 (chainP_app ch6_16 (chainP_app ch6_17 (chainP_app ch6_18 (chainP_app ch6_19 (chainP_app ch6_20 (chainP_app ch6_21 (chainP_app ch6_22 (chainP_app ch6_23 (chainP_app ch6_24 (chainP_app ch6_25 (chainP_app ch6_26 (chainP_app ch6_27 (chainP_app ch6_28 (chainP_app ch6_29 (chainP_app ch6_30 (chainP_app ch6_31 (chainP_app ch6_32 (chainP_app ch6_33 (chainP_app ch6_34 (chainP_app ch6_35 rfl))))))))))))))))))))))))))))))))))))
theorem ce6 : Pm.np 6 6 [5, 4, 3, 2, 1, 0] [1, 1, 1, 1, 1, 1] = none := by kernel_rfl
theorem ln6 : (tt6_0 ++ rr6).length < 1000000 := by decide +kernel
theorem ps6 : (([0, 1, 2, 3, 4, 5], [6, 5, 4, 3, 2, 1]) :: (tt6_0 ++ rr6)).map (fun a => PyData.tuple (a.1.map (Pm.dAt 6))) = p6 := by
  show (ss6_0 ++ rr6).map _ = _
  unfold p6 rr6
  simp only [List.map_append, List.map_nil, sp6_0, sp6_1, sp6_2, sp6_3, sp6_4, sp6_5, sp6_6, sp6_7, sp6_8, sp6_9, sp6_10, sp6_11, sp6_12, sp6_13, sp6_14, sp6_15, sp6_16, sp6_17, sp6_18, sp6_19, sp6_20, sp6_21, sp6_22, sp6_23, sp6_24, sp6_25, sp6_26, sp6_27, sp6_28, sp6_29, sp6_30, sp6_31, sp6_32, sp6_33, sp6_34, sp6_35]
theorem perm6 : permD 6 = some p6 := by
  rw [← ps6]
  exact permD_of (by kernel_rfl) ch6 ce6 ln6
theorem weak6 : F_weak_count [.imm (.int 6)] = .ret (.imm (.int 422)) [.imm (.int 6)] := by kernel_rfl
end DLP
end

set_option Elab.async false
set_option linter.all false
set_option maxRecDepth 1000000
set_option maxHeartbeats 4000000
noncomputable section
namespace DLP
open PySem PySem.Spec PyProof.Rows DL
theorem lo6_0 : loopC (gOne 1) (fTr (f2 hIsN (fCallF F_first_bar (faCons (fName 1) faNil)) (fImm .none))) (fName 1) [1] p6_0 st6 [] = .ok f6_0 st6 := by kernel_rfl
theorem la6_0 : loopC (gOne 2) (fTr (f2 hIsN (fCallF F__law_first_bar (faCons (fName 2) faNil)) (fImm .none))) (fName 2) [2] p6_0 su6 [] = .ok f6_0 su6 := by kernel_rfl
theorem ck6_0 : chks f6_0 c6_0 = true := by kernel_rfl
theorem lo6_1 : loopC (gOne 1) (fTr (f2 hIsN (fCallF F_first_bar (faCons (fName 1) faNil)) (fImm .none))) (fName 1) [1] p6_1 st6 [] = .ok f6_1 st6 := by kernel_rfl
theorem la6_1 : loopC (gOne 2) (fTr (f2 hIsN (fCallF F__law_first_bar (faCons (fName 2) faNil)) (fImm .none))) (fName 2) [2] p6_1 su6 [] = .ok f6_1 su6 := by kernel_rfl
theorem ck6_1 : chks f6_1 c6_1 = true := by kernel_rfl
theorem lo6_2 : loopC (gOne 1) (fTr (f2 hIsN (fCallF F_first_bar (faCons (fName 1) faNil)) (fImm .none))) (fName 1) [1] p6_2 st6 [] = .ok f6_2 st6 := by kernel_rfl
theorem la6_2 : loopC (gOne 2) (fTr (f2 hIsN (fCallF F__law_first_bar (faCons (fName 2) faNil)) (fImm .none))) (fName 2) [2] p6_2 su6 [] = .ok f6_2 su6 := by kernel_rfl
theorem ck6_2 : chks f6_2 c6_2 = true := by kernel_rfl
theorem lo6_3 : loopC (gOne 1) (fTr (f2 hIsN (fCallF F_first_bar (faCons (fName 1) faNil)) (fImm .none))) (fName 1) [1] p6_3 st6 [] = .ok f6_3 st6 := by kernel_rfl
theorem la6_3 : loopC (gOne 2) (fTr (f2 hIsN (fCallF F__law_first_bar (faCons (fName 2) faNil)) (fImm .none))) (fName 2) [2] p6_3 su6 [] = .ok f6_3 su6 := by kernel_rfl
theorem ck6_3 : chks f6_3 c6_3 = true := by kernel_rfl
theorem lo6_4 : loopC (gOne 1) (fTr (f2 hIsN (fCallF F_first_bar (faCons (fName 1) faNil)) (fImm .none))) (fName 1) [1] p6_4 st6 [] = .ok f6_4 st6 := by kernel_rfl
theorem la6_4 : loopC (gOne 2) (fTr (f2 hIsN (fCallF F__law_first_bar (faCons (fName 2) faNil)) (fImm .none))) (fName 2) [2] p6_4 su6 [] = .ok f6_4 su6 := by kernel_rfl
theorem ck6_4 : chks f6_4 c6_4 = true := by kernel_rfl
theorem lo6_5 : loopC (gOne 1) (fTr (f2 hIsN (fCallF F_first_bar (faCons (fName 1) faNil)) (fImm .none))) (fName 1) [1] p6_5 st6 [] = .ok f6_5 st6 := by kernel_rfl
theorem la6_5 : loopC (gOne 2) (fTr (f2 hIsN (fCallF F__law_first_bar (faCons (fName 2) faNil)) (fImm .none))) (fName 2) [2] p6_5 su6 [] = .ok f6_5 su6 := by kernel_rfl
theorem ck6_5 : chks f6_5 c6_5 = true := by kernel_rfl
end DLP
end

set_option Elab.async false
set_option linter.all false
set_option maxRecDepth 1000000
set_option maxHeartbeats 4000000
noncomputable section
namespace DLP
open PySem PySem.Spec PyProof.Rows DL
theorem lo6_6 : loopC (gOne 1) (fTr (f2 hIsN (fCallF F_first_bar (faCons (fName 1) faNil)) (fImm .none))) (fName 1) [1] p6_6 st6 [] = .ok f6_6 st6 := by kernel_rfl
theorem la6_6 : loopC (gOne 2) (fTr (f2 hIsN (fCallF F__law_first_bar (faCons (fName 2) faNil)) (fImm .none))) (fName 2) [2] p6_6 su6 [] = .ok f6_6 su6 := by kernel_rfl
theorem ck6_6 : chks f6_6 c6_6 = true := by kernel_rfl
theorem lo6_7 : loopC (gOne 1) (fTr (f2 hIsN (fCallF F_first_bar (faCons (fName 1) faNil)) (fImm .none))) (fName 1) [1] p6_7 st6 [] = .ok f6_7 st6 := by kernel_rfl
theorem la6_7 : loopC (gOne 2) (fTr (f2 hIsN (fCallF F__law_first_bar (faCons (fName 2) faNil)) (fImm .none))) (fName 2) [2] p6_7 su6 [] = .ok f6_7 su6 := by kernel_rfl
theorem ck6_7 : chks f6_7 c6_7 = true := by kernel_rfl
theorem lo6_8 : loopC (gOne 1) (fTr (f2 hIsN (fCallF F_first_bar (faCons (fName 1) faNil)) (fImm .none))) (fName 1) [1] p6_8 st6 [] = .ok f6_8 st6 := by kernel_rfl
theorem la6_8 : loopC (gOne 2) (fTr (f2 hIsN (fCallF F__law_first_bar (faCons (fName 2) faNil)) (fImm .none))) (fName 2) [2] p6_8 su6 [] = .ok f6_8 su6 := by kernel_rfl
theorem ck6_8 : chks f6_8 c6_8 = true := by kernel_rfl
theorem lo6_9 : loopC (gOne 1) (fTr (f2 hIsN (fCallF F_first_bar (faCons (fName 1) faNil)) (fImm .none))) (fName 1) [1] p6_9 st6 [] = .ok f6_9 st6 := by kernel_rfl
theorem la6_9 : loopC (gOne 2) (fTr (f2 hIsN (fCallF F__law_first_bar (faCons (fName 2) faNil)) (fImm .none))) (fName 2) [2] p6_9 su6 [] = .ok f6_9 su6 := by kernel_rfl
theorem ck6_9 : chks f6_9 c6_9 = true := by kernel_rfl
theorem lo6_10 : loopC (gOne 1) (fTr (f2 hIsN (fCallF F_first_bar (faCons (fName 1) faNil)) (fImm .none))) (fName 1) [1] p6_10 st6 [] = .ok f6_10 st6 := by kernel_rfl
theorem la6_10 : loopC (gOne 2) (fTr (f2 hIsN (fCallF F__law_first_bar (faCons (fName 2) faNil)) (fImm .none))) (fName 2) [2] p6_10 su6 [] = .ok f6_10 su6 := by kernel_rfl
theorem ck6_10 : chks f6_10 c6_10 = true := by kernel_rfl
theorem lo6_11 : loopC (gOne 1) (fTr (f2 hIsN (fCallF F_first_bar (faCons (fName 1) faNil)) (fImm .none))) (fName 1) [1] p6_11 st6 [] = .ok f6_11 st6 := by kernel_rfl
theorem la6_11 : loopC (gOne 2) (fTr (f2 hIsN (fCallF F__law_first_bar (faCons (fName 2) faNil)) (fImm .none))) (fName 2) [2] p6_11 su6 [] = .ok f6_11 su6 := by kernel_rfl
theorem ck6_11 : chks f6_11 c6_11 = true := by kernel_rfl
end DLP
end

set_option Elab.async false
set_option linter.all false
set_option maxRecDepth 1000000
set_option maxHeartbeats 4000000
noncomputable section
namespace DLP
open PySem PySem.Spec PyProof.Rows DL
theorem lo6_12 : loopC (gOne 1) (fTr (f2 hIsN (fCallF F_first_bar (faCons (fName 1) faNil)) (fImm .none))) (fName 1) [1] p6_12 st6 [] = .ok f6_12 st6 := by kernel_rfl
theorem la6_12 : loopC (gOne 2) (fTr (f2 hIsN (fCallF F__law_first_bar (faCons (fName 2) faNil)) (fImm .none))) (fName 2) [2] p6_12 su6 [] = .ok f6_12 su6 := by kernel_rfl
theorem ck6_12 : chks f6_12 c6_12 = true := by kernel_rfl
theorem lo6_13 : loopC (gOne 1) (fTr (f2 hIsN (fCallF F_first_bar (faCons (fName 1) faNil)) (fImm .none))) (fName 1) [1] p6_13 st6 [] = .ok f6_13 st6 := by kernel_rfl
theorem la6_13 : loopC (gOne 2) (fTr (f2 hIsN (fCallF F__law_first_bar (faCons (fName 2) faNil)) (fImm .none))) (fName 2) [2] p6_13 su6 [] = .ok f6_13 su6 := by kernel_rfl
theorem ck6_13 : chks f6_13 c6_13 = true := by kernel_rfl
theorem lo6_14 : loopC (gOne 1) (fTr (f2 hIsN (fCallF F_first_bar (faCons (fName 1) faNil)) (fImm .none))) (fName 1) [1] p6_14 st6 [] = .ok f6_14 st6 := by kernel_rfl
theorem la6_14 : loopC (gOne 2) (fTr (f2 hIsN (fCallF F__law_first_bar (faCons (fName 2) faNil)) (fImm .none))) (fName 2) [2] p6_14 su6 [] = .ok f6_14 su6 := by kernel_rfl
theorem ck6_14 : chks f6_14 c6_14 = true := by kernel_rfl
theorem lo6_15 : loopC (gOne 1) (fTr (f2 hIsN (fCallF F_first_bar (faCons (fName 1) faNil)) (fImm .none))) (fName 1) [1] p6_15 st6 [] = .ok f6_15 st6 := by kernel_rfl
theorem la6_15 : loopC (gOne 2) (fTr (f2 hIsN (fCallF F__law_first_bar (faCons (fName 2) faNil)) (fImm .none))) (fName 2) [2] p6_15 su6 [] = .ok f6_15 su6 := by kernel_rfl
theorem ck6_15 : chks f6_15 c6_15 = true := by kernel_rfl
theorem lo6_16 : loopC (gOne 1) (fTr (f2 hIsN (fCallF F_first_bar (faCons (fName 1) faNil)) (fImm .none))) (fName 1) [1] p6_16 st6 [] = .ok f6_16 st6 := by kernel_rfl
theorem la6_16 : loopC (gOne 2) (fTr (f2 hIsN (fCallF F__law_first_bar (faCons (fName 2) faNil)) (fImm .none))) (fName 2) [2] p6_16 su6 [] = .ok f6_16 su6 := by kernel_rfl
theorem ck6_16 : chks f6_16 c6_16 = true := by kernel_rfl
theorem lo6_17 : loopC (gOne 1) (fTr (f2 hIsN (fCallF F_first_bar (faCons (fName 1) faNil)) (fImm .none))) (fName 1) [1] p6_17 st6 [] = .ok f6_17 st6 := by kernel_rfl
theorem la6_17 : loopC (gOne 2) (fTr (f2 hIsN (fCallF F__law_first_bar (faCons (fName 2) faNil)) (fImm .none))) (fName 2) [2] p6_17 su6 [] = .ok f6_17 su6 := by kernel_rfl
theorem ck6_17 : chks f6_17 c6_17 = true := by kernel_rfl
end DLP
end

set_option Elab.async false
set_option linter.all false
set_option maxRecDepth 1000000
set_option maxHeartbeats 4000000
noncomputable section
namespace DLP
open PySem PySem.Spec PyProof.Rows DL
theorem lo6_18 : loopC (gOne 1) (fTr (f2 hIsN (fCallF F_first_bar (faCons (fName 1) faNil)) (fImm .none))) (fName 1) [1] p6_18 st6 [] = .ok f6_18 st6 := by kernel_rfl
theorem la6_18 : loopC (gOne 2) (fTr (f2 hIsN (fCallF F__law_first_bar (faCons (fName 2) faNil)) (fImm .none))) (fName 2) [2] p6_18 su6 [] = .ok f6_18 su6 := by kernel_rfl
theorem ck6_18 : chks f6_18 c6_18 = true := by kernel_rfl
theorem lo6_19 : loopC (gOne 1) (fTr (f2 hIsN (fCallF F_first_bar (faCons (fName 1) faNil)) (fImm .none))) (fName 1) [1] p6_19 st6 [] = .ok f6_19 st6 := by kernel_rfl
theorem la6_19 : loopC (gOne 2) (fTr (f2 hIsN (fCallF F__law_first_bar (faCons (fName 2) faNil)) (fImm .none))) (fName 2) [2] p6_19 su6 [] = .ok f6_19 su6 := by kernel_rfl
theorem ck6_19 : chks f6_19 c6_19 = true := by kernel_rfl
theorem lo6_20 : loopC (gOne 1) (fTr (f2 hIsN (fCallF F_first_bar (faCons (fName 1) faNil)) (fImm .none))) (fName 1) [1] p6_20 st6 [] = .ok f6_20 st6 := by kernel_rfl
theorem la6_20 : loopC (gOne 2) (fTr (f2 hIsN (fCallF F__law_first_bar (faCons (fName 2) faNil)) (fImm .none))) (fName 2) [2] p6_20 su6 [] = .ok f6_20 su6 := by kernel_rfl
theorem ck6_20 : chks f6_20 c6_20 = true := by kernel_rfl
theorem lo6_21 : loopC (gOne 1) (fTr (f2 hIsN (fCallF F_first_bar (faCons (fName 1) faNil)) (fImm .none))) (fName 1) [1] p6_21 st6 [] = .ok f6_21 st6 := by kernel_rfl
theorem la6_21 : loopC (gOne 2) (fTr (f2 hIsN (fCallF F__law_first_bar (faCons (fName 2) faNil)) (fImm .none))) (fName 2) [2] p6_21 su6 [] = .ok f6_21 su6 := by kernel_rfl
theorem ck6_21 : chks f6_21 c6_21 = true := by kernel_rfl
theorem lo6_22 : loopC (gOne 1) (fTr (f2 hIsN (fCallF F_first_bar (faCons (fName 1) faNil)) (fImm .none))) (fName 1) [1] p6_22 st6 [] = .ok f6_22 st6 := by kernel_rfl
theorem la6_22 : loopC (gOne 2) (fTr (f2 hIsN (fCallF F__law_first_bar (faCons (fName 2) faNil)) (fImm .none))) (fName 2) [2] p6_22 su6 [] = .ok f6_22 su6 := by kernel_rfl
theorem ck6_22 : chks f6_22 c6_22 = true := by kernel_rfl
theorem lo6_23 : loopC (gOne 1) (fTr (f2 hIsN (fCallF F_first_bar (faCons (fName 1) faNil)) (fImm .none))) (fName 1) [1] p6_23 st6 [] = .ok f6_23 st6 := by kernel_rfl
theorem la6_23 : loopC (gOne 2) (fTr (f2 hIsN (fCallF F__law_first_bar (faCons (fName 2) faNil)) (fImm .none))) (fName 2) [2] p6_23 su6 [] = .ok f6_23 su6 := by kernel_rfl
theorem ck6_23 : chks f6_23 c6_23 = true := by kernel_rfl
end DLP
end

set_option Elab.async false
set_option linter.all false
set_option maxRecDepth 1000000
set_option maxHeartbeats 4000000
noncomputable section
namespace DLP
open PySem PySem.Spec PyProof.Rows DL
theorem lo6_24 : loopC (gOne 1) (fTr (f2 hIsN (fCallF F_first_bar (faCons (fName 1) faNil)) (fImm .none))) (fName 1) [1] p6_24 st6 [] = .ok f6_24 st6 := by kernel_rfl
theorem la6_24 : loopC (gOne 2) (fTr (f2 hIsN (fCallF F__law_first_bar (faCons (fName 2) faNil)) (fImm .none))) (fName 2) [2] p6_24 su6 [] = .ok f6_24 su6 := by kernel_rfl
theorem ck6_24 : chks f6_24 c6_24 = true := by kernel_rfl
theorem lo6_25 : loopC (gOne 1) (fTr (f2 hIsN (fCallF F_first_bar (faCons (fName 1) faNil)) (fImm .none))) (fName 1) [1] p6_25 st6 [] = .ok f6_25 st6 := by kernel_rfl
theorem la6_25 : loopC (gOne 2) (fTr (f2 hIsN (fCallF F__law_first_bar (faCons (fName 2) faNil)) (fImm .none))) (fName 2) [2] p6_25 su6 [] = .ok f6_25 su6 := by kernel_rfl
theorem ck6_25 : chks f6_25 c6_25 = true := by kernel_rfl
theorem lo6_26 : loopC (gOne 1) (fTr (f2 hIsN (fCallF F_first_bar (faCons (fName 1) faNil)) (fImm .none))) (fName 1) [1] p6_26 st6 [] = .ok f6_26 st6 := by kernel_rfl
theorem la6_26 : loopC (gOne 2) (fTr (f2 hIsN (fCallF F__law_first_bar (faCons (fName 2) faNil)) (fImm .none))) (fName 2) [2] p6_26 su6 [] = .ok f6_26 su6 := by kernel_rfl
theorem ck6_26 : chks f6_26 c6_26 = true := by kernel_rfl
theorem lo6_27 : loopC (gOne 1) (fTr (f2 hIsN (fCallF F_first_bar (faCons (fName 1) faNil)) (fImm .none))) (fName 1) [1] p6_27 st6 [] = .ok f6_27 st6 := by kernel_rfl
theorem la6_27 : loopC (gOne 2) (fTr (f2 hIsN (fCallF F__law_first_bar (faCons (fName 2) faNil)) (fImm .none))) (fName 2) [2] p6_27 su6 [] = .ok f6_27 su6 := by kernel_rfl
theorem ck6_27 : chks f6_27 c6_27 = true := by kernel_rfl
theorem lo6_28 : loopC (gOne 1) (fTr (f2 hIsN (fCallF F_first_bar (faCons (fName 1) faNil)) (fImm .none))) (fName 1) [1] p6_28 st6 [] = .ok f6_28 st6 := by kernel_rfl
theorem la6_28 : loopC (gOne 2) (fTr (f2 hIsN (fCallF F__law_first_bar (faCons (fName 2) faNil)) (fImm .none))) (fName 2) [2] p6_28 su6 [] = .ok f6_28 su6 := by kernel_rfl
theorem ck6_28 : chks f6_28 c6_28 = true := by kernel_rfl
theorem lo6_29 : loopC (gOne 1) (fTr (f2 hIsN (fCallF F_first_bar (faCons (fName 1) faNil)) (fImm .none))) (fName 1) [1] p6_29 st6 [] = .ok f6_29 st6 := by kernel_rfl
theorem la6_29 : loopC (gOne 2) (fTr (f2 hIsN (fCallF F__law_first_bar (faCons (fName 2) faNil)) (fImm .none))) (fName 2) [2] p6_29 su6 [] = .ok f6_29 su6 := by kernel_rfl
theorem ck6_29 : chks f6_29 c6_29 = true := by kernel_rfl
end DLP
end

set_option Elab.async false
set_option linter.all false
set_option maxRecDepth 1000000
set_option maxHeartbeats 4000000
noncomputable section
namespace DLP
open PySem PySem.Spec PyProof.Rows DL
theorem lo6_30 : loopC (gOne 1) (fTr (f2 hIsN (fCallF F_first_bar (faCons (fName 1) faNil)) (fImm .none))) (fName 1) [1] p6_30 st6 [] = .ok f6_30 st6 := by kernel_rfl
theorem la6_30 : loopC (gOne 2) (fTr (f2 hIsN (fCallF F__law_first_bar (faCons (fName 2) faNil)) (fImm .none))) (fName 2) [2] p6_30 su6 [] = .ok f6_30 su6 := by kernel_rfl
theorem ck6_30 : chks f6_30 c6_30 = true := by kernel_rfl
theorem lo6_31 : loopC (gOne 1) (fTr (f2 hIsN (fCallF F_first_bar (faCons (fName 1) faNil)) (fImm .none))) (fName 1) [1] p6_31 st6 [] = .ok f6_31 st6 := by kernel_rfl
theorem la6_31 : loopC (gOne 2) (fTr (f2 hIsN (fCallF F__law_first_bar (faCons (fName 2) faNil)) (fImm .none))) (fName 2) [2] p6_31 su6 [] = .ok f6_31 su6 := by kernel_rfl
theorem ck6_31 : chks f6_31 c6_31 = true := by kernel_rfl
theorem lo6_32 : loopC (gOne 1) (fTr (f2 hIsN (fCallF F_first_bar (faCons (fName 1) faNil)) (fImm .none))) (fName 1) [1] p6_32 st6 [] = .ok f6_32 st6 := by kernel_rfl
theorem la6_32 : loopC (gOne 2) (fTr (f2 hIsN (fCallF F__law_first_bar (faCons (fName 2) faNil)) (fImm .none))) (fName 2) [2] p6_32 su6 [] = .ok f6_32 su6 := by kernel_rfl
theorem ck6_32 : chks f6_32 c6_32 = true := by kernel_rfl
theorem lo6_33 : loopC (gOne 1) (fTr (f2 hIsN (fCallF F_first_bar (faCons (fName 1) faNil)) (fImm .none))) (fName 1) [1] p6_33 st6 [] = .ok f6_33 st6 := by kernel_rfl
theorem la6_33 : loopC (gOne 2) (fTr (f2 hIsN (fCallF F__law_first_bar (faCons (fName 2) faNil)) (fImm .none))) (fName 2) [2] p6_33 su6 [] = .ok f6_33 su6 := by kernel_rfl
theorem ck6_33 : chks f6_33 c6_33 = true := by kernel_rfl
theorem lo6_34 : loopC (gOne 1) (fTr (f2 hIsN (fCallF F_first_bar (faCons (fName 1) faNil)) (fImm .none))) (fName 1) [1] p6_34 st6 [] = .ok f6_34 st6 := by kernel_rfl
theorem la6_34 : loopC (gOne 2) (fTr (f2 hIsN (fCallF F__law_first_bar (faCons (fName 2) faNil)) (fImm .none))) (fName 2) [2] p6_34 su6 [] = .ok f6_34 su6 := by kernel_rfl
theorem ck6_34 : chks f6_34 c6_34 = true := by kernel_rfl
theorem lo6_35 : loopC (gOne 1) (fTr (f2 hIsN (fCallF F_first_bar (faCons (fName 1) faNil)) (fImm .none))) (fName 1) [1] p6_35 st6 [] = .ok f6_35 st6 := by kernel_rfl
theorem la6_35 : loopC (gOne 2) (fTr (f2 hIsN (fCallF F__law_first_bar (faCons (fName 2) faNil)) (fImm .none))) (fName 2) [2] p6_35 su6 [] = .ok f6_35 su6 := by kernel_rfl
theorem ck6_35 : chks f6_35 c6_35 = true := by kernel_rfl
end DLP
end

set_option Elab.async false
set_option linter.all false
set_option maxRecDepth 100000
set_option maxHeartbeats 4000000
noncomputable section
namespace DLP
open PySem PySem.Spec PyProof.Rows DL
/-! ### all permutations as the law makes them -/
abbrev nI (i : Nat) : D := PyData.int (i : Int)
def extN (n : Nat) (r : List Nat) : List (List Nat) := ((List.range n).filter fun i => !r.contains i).map fun i => r ++ [i]
def encR (r : List Nat) : D := .tuple (r.map nI)
theorem rgFrom_map : ∀ (n lo : Nat), rgFrom lo n = (List.range' lo n).map nI
  | 0, lo => rfl
  | n + 1, lo => by
    show PyData.int (lo : Int) :: rgFrom ((lo : Int) + 1) n = _
    rw [show ((lo : Int) + 1) = ((lo + 1 : Nat) : Int) from by omega, rgFrom_map n (lo + 1)]
    rfl
theorem rgFrom_range (n : Nat) : rgFrom 0 n = (List.range n).map nI := by
  have := rgFrom_map n 0
  rw [List.range_eq_range']
  exact this
theorem memI_enc (i : Nat) : ∀ r : List Nat, memI i (r.map nI) = some (r.contains i)
  | [] => rfl
  | j :: r => by
    show (if (j : Int) = (i : Int) then (memI i (r.map nI)).map fun _ => true else memI i (r.map nI)) = _
    rw [memI_enc i r, List.contains_cons]
    by_cases h : j = i
    · subst h
      rw [if_pos rfl, beq_self_eq_true]
      rfl
    · rw [if_neg (by omega), show (i == j) = false from beq_eq_false_iff_ne.mpr (fun e => h e.symm), Bool.false_or]
theorem notIn_enc (i : Nat) (r : List Nat) : hIn true (nI i) (encR r) = some (.val (.bool !(r.contains i))) := by
  show (memD (.int i) (r.map nI)).map _ = _
  have : memD (.int i) (r.map nI) = some (r.contains i) := by
    unfold memD
    dsimp only
    rw [memI_enc]
  rw [this]
  rfl
def addPO (r : List Nat) (i : Nat) : PO := match r with
  | [] => .val (.tuple [nI i])
  | x :: r => .tup (nI x :: r.map nI ++ [nI i])
theorem add_enc (r : List Nat) (i : Nat) (h : r.length < 1000) : hAdd (encR r) (.tuple [nI i]) = some (addPO r i) := by
  have hm : (r.map nI).length + [nI i].length ≤ mx := by
    have : mx = 16000000 := rfl
    rw [List.length_map, List.length_singleton]
    omega
  unfold encR
  unfold hAdd
  dsimp only
  rw [if_pos hm]
  cases r <;> rfl
theorem addPO_ok (r : List Nat) (i : Nat) (s : SD) : poR s (addPO r i) = .ok (.imm (encR (r ++ [i]))) s := by
  cases r with
  | nil => rfl
  | cons x r =>
    show R.ok (RV.imm (.tuple (nI x :: r.map nI ++ [nI i]))) s = R.ok (RV.imm (.tuple ((x :: r ++ [i]).map nI))) s
    rw [List.map_append]
    rfl
def S6 (n : Nat) (o2 : Option D) (L R : List D) (st : D) : SD := [some (.imm (nI n)), none, o2.map .imm, some (.imm (.list L)), some (.imm (.list R)), some (.imm st)]
def pN (r : List Nat) : D → Bool
  | .int i => !r.contains i.toNat
  | _ => false
def fN (r : List Nat) : D → D
  | .int i => encR (r ++ [i.toNat])
  | _ => .none
theorem ext_ok {n : Nat} {r : List Nat} {L R : List D} {st : D} (hn : n ≤ 1000) (hr : r.length < 1000) : fLc (fRng1 (faCons (fName 0) faNil)) [1] (gOne 1) (fTr (f2 (hIn true) (fName 1) (fName 2))) (fI (f2 hAdd (fName 2) (fTup (faCons (fName 1) faNil)))) (S6 n (some (encR r)) L R st) = .ok (.tmp ((extN n r).map encR)) (S6 n (some (encR r)) L R st) := by
  have hm : mx = 16000000 := rfl
  have q := loopC_filter (gg := gOne 1) (cond := fTr (f2 (hIn true) (fName 1) (fName 2))) (elt := fI (f2 hAdd (fName 2) (fTup (faCons (fName 1) faNil)))) (vs := [1]) (s := S6 n (some (encR r)) L R st) (p := pN r) (f := fN r) (rgFrom 0 n) [] (fun d m => by
    obtain ⟨i, hi, rfl⟩ := rng_mem m
    obtain ⟨s1, e1⟩ : ∃ s1 : SD, s1 = [some (.imm (nI n)), some (.imm (nI i)), some (.imm (encR r)), some (.imm (.list L)), some (.imm (.list R)), some (.imm st)] := ⟨_, rfl⟩
    have g1 : fName 1 s1 = .ok (.imm (nI i)) s1 := by rw [e1]; rfl
    have g2 : fName 2 s1 = .ok (.imm (encR r)) s1 := by rw [e1]; rfl
    refine ⟨s1, s1, by rw [e1]; rfl, tr_ok (v := .imm (.bool !(r.contains i))) (f2_val g1 g2 rfl rfl (notIn_enc i r)) ?_, fun _ => by rw [e1]; rfl, fun _ => ⟨s1, fI_imm ((f2_ok (d := encR r) (d2 := .tuple [nI i]) (r1 := .imm (encR r)) (r2 := .imm (.tuple [nI i])) g2 ?_ rfl rfl (add_enc r i hr)).trans (addPO_ok r i s1)), by rw [e1]; rfl⟩⟩
    · rfl
    · rw [e1]
      rfl) (by
    rw [rgFrom_len, List.length_nil]
    omega)
  rw [List.nil_append, rgFrom_range, List.filter_map, List.map_map] at q
  refine lc_ok (s1 := S6 n (some (encR r)) L R st) (s2 := S6 n (some (encR r)) L R st) (ds := rgFrom 0 n) (rng1_ok rfl (by omega)) rfl ?_ rfl
  rw [rgFrom_range]
  refine q.trans ?_
  unfold extN
  rw [List.map_map]
  rfl
theorem row_ok {n : Nat} {r : List Nat} {L R : List D} {st : D} (hn : n ≤ 1000) (hr : r.length < 1000) (hL : L.length + (extN n r).length ≤ mx) : fSetI 3 (f2 hAdd (fName 3) (fLc (fRng1 (faCons (fName 0) faNil)) [1] (gOne 1) (fTr (f2 (hIn true) (fName 1) (fName 2))) (fI (f2 hAdd (fName 2) (fTup (faCons (fName 1) faNil)))))) (S6 n (some (encR r)) L R st) = .nx (S6 n (some (encR r)) (L ++ (extN n r).map encR) R st) := by
  refine setI_tmp (s1 := S6 n (some (encR r)) L R st) ?_ rfl
  refine f2_ok (d := .list L) (d2 := .list ((extN n r).map encR)) (r1 := .imm (.list L)) (r2 := .tmp ((extN n r).map encR)) (o := .lst (L ++ (extN n r).map encR)) rfl (ext_ok hn hr) rfl rfl ?_
  unfold hAdd
  dsimp only
  rw [if_pos (by rw [List.length_map]; exact hL)]
theorem loopF_nx {g : D → SD → Option SD} {body : FS} {d : D} {ds : List D} {s s1 s2 : SD} (h1 : g d s = some s1) (h2 : body s1 = .nx s2) : loopF g body (d :: ds) s = loopF g body ds s2 := by
  show (match g d s with | none => RS.no | some s1 => match body s1 with | .nx s2 => loopF g body ds s2 | .ct s2 => loopF g body ds s2 | .bk s2 => .nx s2 | .rt r s2 => .rt r s2 | .ex e s2 => .ex e s2 | .no => .no) = _
  rw [h1]
  dsimp only
  rw [h2]
abbrev bodyR : FS := fSetI 3 (f2 hAdd (fName 3) (fLc (fRng1 (faCons (fName 0) faNil)) [1] (gOne 1) (fTr (f2 (hIn true) (fName 1) (fName 2))) (fI (f2 hAdd (fName 2) (fTup (faCons (fName 1) faNil))))))
theorem rows_ok {n : Nat} {R : List D} {st : D} (hn : n ≤ 1000) (M : Nat) (hM : M ≤ mx) (rs : List (List Nat)) : ∀ (L : List D) (o2 : Option D), (∀ r ∈ rs, r.length < 1000) → L.length + (rs.flatMap (extN n)).length ≤ M → ∃ o2', loopF (gOne 2) bodyR (rs.map encR) (S6 n o2 L R st) = .nx (S6 n o2' (L ++ (rs.flatMap (extN n)).map encR) R st) := by
  induction rs with
  | nil => exact fun L o2 _ _ => ⟨o2, by rw [List.flatMap_nil, List.map_nil, List.append_nil]; rfl⟩
  | cons r rs ih =>
    intro L o2 hr hL
    rw [List.flatMap_cons, List.length_append] at hL
    obtain ⟨o2', ih⟩ := ih (L ++ (extN n r).map encR) (some (encR r)) (fun r' m => hr r' (List.mem_cons_of_mem _ m)) (by rw [List.length_append, List.length_map]; omega)
    refine ⟨o2', ?_⟩
    rw [List.map_cons, List.flatMap_cons, List.map_append, ← List.append_assoc]
    exact (loopF_nx (setD_opt (o := o2) rfl) (row_ok hn (hr r (List.mem_cons_self ..)) (by omega))).trans ih
def rowsN (n : Nat) : Nat → List (List Nat)
  | 0 => [[]]
  | k + 1 => (rowsN n k).flatMap (extN n)
end DLP
end

set_option Elab.async false
set_option linter.all false
set_option maxRecDepth 100000
set_option maxHeartbeats 4000000
noncomputable section
namespace DLP
open PySem PySem.Spec PyProof.Rows DL
def T6 (n : Nat) (o2 o3 : Option D) (R : List D) (o5 : Option D) : SD := [some (.imm (nI n)), none, o2.map .imm, o3.map .imm, some (.imm (.list R)), o5.map .imm]
def oR3 (n : Nat) : Nat → Option D
  | 0 => none
  | k + 1 => some (.list ((rowsN n (k + 1)).map encR))
def oT5 : Nat → Option D
  | 0 => none
  | k + 1 => some (nI k)
abbrev bodyS : FS := fSeq (fSetI 3 (fLst faNil)) (fSeq (fFor (fIt (fName 4)) (gOne 2) bodyR) (fSetI 4 (fName 3)))
def okRows (n : Nat) : Bool := (List.range (n + 1)).all fun k => decide ((rowsN n k).length ≤ 1000) && (rowsN n k).all fun r => decide (r.length < 1000)
theorem step_ok {n k : Nat} {o2 o3 o5 : Option D} (hn : n ≤ 1000) (hk : k < n) (hr : okRows n = true) : ∃ o2', bodyS (T6 n o2 o3 ((rowsN n k).map encR) (some (nI k))) = .nx (T6 n o2' (oR3 n (k + 1)) ((rowsN n (k + 1)).map encR) (oT5 (k + 1))) := by
  have hm : mx = 16000000 := rfl
  have q := List.all_eq_true.mp hr
  have q1 := q k (List.mem_range.mpr (by omega))
  have q2 := q (k + 1) (List.mem_range.mpr (by omega))
  rw [Bool.and_eq_true, decide_eq_true_eq, List.all_eq_true] at q1 q2
  obtain ⟨o2', e⟩ := rows_ok (n := n) (R := (rowsN n k).map encR) (st := nI k) hn 1000 (by omega) (rowsN n k) [] o2 (fun r m => of_decide_eq_true (q1.2 r m)) (by
    have := q2.1
    show 0 + ((rowsN n k).flatMap (extN n)).length ≤ 1000
    rw [Nat.zero_add]
    exact this)
  refine ⟨o2', ?_⟩
  refine seq_nx (setI_tmp (xs := []) (s1 := T6 n o2 o3 ((rowsN n k).map encR) (some (nI k))) (s2 := S6 n o2 [] ((rowsN n k).map encR) (nI k)) ?_ (setD_opt (o := o3) rfl)) ?_
  · show (if 0 ≤ mx then R.ok (RV.tmp []) (T6 n o2 o3 ((rowsN n k).map encR) (some (nI k))) else R.no) = _
    rw [if_pos (Nat.zero_le _)]
  · exact seq_nx (for_is (s1 := S6 n o2 [] ((rowsN n k).map encR) (nI k)) (it_list rfl) e) (setI_nx (d := .list ([] ++ ((rowsN n k).flatMap (extN n)).map encR)) rfl rfl)
theorem outer_ok {n : Nat} (hn : n ≤ 1000) (hr : okRows n = true) : ∃ o2, loopF (gOne 5) bodyS (rgFrom 0 n) (T6 n none none [.tuple []] none) = .nx (T6 n o2 (oR3 n n) ((rowsN n n).map encR) (oT5 n)) := by
  obtain ⟨s', h1, o2, h2⟩ := loopF_inv (gg := gOne 5) (body := bodyS) (fun p s => ∃ o2, s = T6 n o2 (oR3 n p.length) ((rowsN n p.length).map encR) (oT5 p.length)) [] (rgFrom 0 n) (T6 n none none [.tuple []] none) ⟨none, rfl⟩ (fun p d q s e h => by
    obtain ⟨o2, rfl⟩ := h
    rw [List.nil_append] at e
    have el := congrArg List.length e
    rw [rgFrom_len, List.length_append, List.length_cons] at el
    have hd : d = nI p.length := by
      have : (rgFrom 0 n)[p.length]? = some d := by
        rw [e, List.getElem?_append_right (Nat.le_refl _), Nat.sub_self]
        rfl
      rw [rgFrom_get _ _ _ _ this, Int.zero_add]
    subst hd
    obtain ⟨o2', h⟩ := step_ok (n := n) (k := p.length) (o2 := o2) (o3 := oR3 n p.length) (o5 := oT5 p.length) hn (by omega) hr
    refine ⟨_, _, setD_opt (o := oT5 p.length) rfl, .inl h, o2', ?_⟩
    rw [List.length_append, List.length_singleton])
  rw [List.nil_append, rgFrom_len] at h2
  exact ⟨o2, by rw [h1, h2]⟩
def eqI : List D → List D → Bool
  | [], [] => true
  | .int i :: a, .int j :: b => decide (i = j) && eqI a b
  | _, _ => false
theorem eqI_ok : ∀ {a b : List D}, eqI a b = true → a = b
  | [], [], _ => rfl
  | [], _ :: _, h => by cases h
  | x :: a, [], h => by cases x <;> cases h
  | x :: a, y :: b, h => by
    cases x with
    | int i =>
      cases y with
      | int j =>
        have h' : (decide (i = j) && eqI a b) = true := h
        rw [Bool.and_eq_true, decide_eq_true_eq] at h'
        rw [h'.1, eqI_ok h'.2]
      | _ => cases h
    | _ => cases h
def eqTs : List D → List D → Bool
  | [], [] => true
  | .tuple x :: a, .tuple y :: b => eqI x y && eqTs a b
  | _, _ => false
theorem eqTs_ok : ∀ {a b : List D}, eqTs a b = true → a = b
  | [], [], _ => rfl
  | [], _ :: _, h => by cases h
  | x :: a, [], h => by cases x <;> cases h
  | x :: a, y :: b, h => by
    cases x with
    | tuple i =>
      cases y with
      | tuple j =>
        have h' : (eqI i j && eqTs a b) = true := h
        rw [Bool.and_eq_true] at h'
        rw [eqI_ok h'.1, eqTs_ok h'.2]
      | _ => cases h
    | _ => cases h
theorem rows6 : (rowsN 6 6).map encR = p6 := eqTs_ok (by kernel_rfl)
theorem for6 : ∃ o2, fFor (fRng1 (faCons (fName 0) faNil)) (gOne 5) bodyS [some (.imm (.int 6)), none, none, none, some (.imm (.list [.tuple []])), none] = .nx (T6 6 o2 (some (.list p6)) p6 (some (.int 5))) := by
  obtain ⟨o2, h⟩ := outer_ok (n := 6) (by decide) (by decide +kernel)
  rw [← rows6]
  exact ⟨o2, for_is (rng1_ok (n := 6) rfl (by decide)) h⟩
end DLP
end

set_option Elab.async false
set_option linter.all false
set_option maxRecDepth 1000000
set_option maxHeartbeats 4000000
noncomputable section
namespace DLP
open PySem PySem.Spec PyProof.Rows DL
theorem lo6 : loopC (gOne 1) (fTr (f2 hIsN (fCallF F_first_bar (faCons (fName 1) faNil)) (fImm .none))) (fName 1) [1] p6 st6 [] = .ok ords6 st6 := (loopC_two lo6_0 (loopC_two lo6_1 (loopC_two lo6_2 (loopC_two lo6_3 (loopC_two lo6_4 (loopC_two lo6_5 (loopC_two lo6_6 (loopC_two lo6_7 (loopC_two lo6_8 (loopC_two lo6_9 (loopC_two lo6_10 (loopC_two lo6_11 (loopC_two lo6_12 (loopC_two lo6_13 (loopC_two lo6_14 (loopC_two lo6_15 (loopC_two lo6_16 (loopC_two lo6_17 (loopC_two lo6_18 (loopC_two lo6_19 (loopC_two lo6_20 (loopC_two lo6_21 (loopC_two lo6_22 (loopC_two lo6_23 (loopC_two lo6_24 (loopC_two lo6_25 (loopC_two lo6_26 (loopC_two lo6_27 (loopC_two lo6_28 (loopC_two lo6_29 (loopC_two lo6_30 (loopC_two lo6_31 (loopC_two lo6_32 (loopC_two lo6_33 (loopC_two lo6_34 (loopC_two lo6_35 rfl (by decide +kernel)) (by decide +kernel)) (by decide +kernel)) (by decide +kernel)) (by decide +kernel)) (by decide +kernel)) (by decide +kernel)) (by decide +kernel)) (by decide +kernel)) (by decide +kernel)) (by decide +kernel)) (by decide +kernel)) (by decide +kernel)) (by decide +kernel)) (by decide +kernel)) (by decide +kernel)) (by decide +kernel)) (by decide +kernel)) (by decide +kernel)) (by decide +kernel)) (by decide +kernel)) (by decide +kernel)) (by decide +kernel)) (by decide +kernel)) (by decide +kernel)) (by decide +kernel)) (by decide +kernel)) (by decide +kernel)) (by decide +kernel)) (by decide +kernel)) (by decide +kernel)) (by decide +kernel)) (by decide +kernel)) (by decide +kernel)) (by decide +kernel)) (by decide +kernel))
theorem la6 : loopC (gOne 2) (fTr (f2 hIsN (fCallF F__law_first_bar (faCons (fName 2) faNil)) (fImm .none))) (fName 2) [2] p6 su6 [] = .ok ords6 su6 := (loopC_two la6_0 (loopC_two la6_1 (loopC_two la6_2 (loopC_two la6_3 (loopC_two la6_4 (loopC_two la6_5 (loopC_two la6_6 (loopC_two la6_7 (loopC_two la6_8 (loopC_two la6_9 (loopC_two la6_10 (loopC_two la6_11 (loopC_two la6_12 (loopC_two la6_13 (loopC_two la6_14 (loopC_two la6_15 (loopC_two la6_16 (loopC_two la6_17 (loopC_two la6_18 (loopC_two la6_19 (loopC_two la6_20 (loopC_two la6_21 (loopC_two la6_22 (loopC_two la6_23 (loopC_two la6_24 (loopC_two la6_25 (loopC_two la6_26 (loopC_two la6_27 (loopC_two la6_28 (loopC_two la6_29 (loopC_two la6_30 (loopC_two la6_31 (loopC_two la6_32 (loopC_two la6_33 (loopC_two la6_34 (loopC_two la6_35 rfl (by decide +kernel)) (by decide +kernel)) (by decide +kernel)) (by decide +kernel)) (by decide +kernel)) (by decide +kernel)) (by decide +kernel)) (by decide +kernel)) (by decide +kernel)) (by decide +kernel)) (by decide +kernel)) (by decide +kernel)) (by decide +kernel)) (by decide +kernel)) (by decide +kernel)) (by decide +kernel)) (by decide +kernel)) (by decide +kernel)) (by decide +kernel)) (by decide +kernel)) (by decide +kernel)) (by decide +kernel)) (by decide +kernel)) (by decide +kernel)) (by decide +kernel)) (by decide +kernel)) (by decide +kernel)) (by decide +kernel)) (by decide +kernel)) (by decide +kernel)) (by decide +kernel)) (by decide +kernel)) (by decide +kernel)) (by decide +kernel)) (by decide +kernel)) (by decide +kernel))
theorem chks6 : chks ords6 codes6 = true := (chks_app ck6_0 (chks_app ck6_1 (chks_app ck6_2 (chks_app ck6_3 (chks_app ck6_4 (chks_app ck6_5 (chks_app ck6_6 (chks_app ck6_7 (chks_app ck6_8 (chks_app ck6_9 (chks_app ck6_10 (chks_app ck6_11 (chks_app ck6_12 (chks_app ck6_13 (chks_app ck6_14 (chks_app ck6_15 (chks_app ck6_16 (chks_app ck6_17 (chks_app ck6_18 (chks_app ck6_19 (chks_app ck6_20 (chks_app ck6_21 (chks_app ck6_22 (chks_app ck6_23 (chks_app ck6_24 (chks_app ck6_25 (chks_app ck6_26 (chks_app ck6_27 (chks_app ck6_28 (chks_app ck6_29 (chks_app ck6_30 (chks_app ck6_31 (chks_app ck6_32 (chks_app ck6_33 (chks_app ck6_34 (chks_app ck6_35 rfl))))))))))))))))))))))))))))))))))))
theorem pf6 : fPerm (fName 0) st6 = .ok p6 st6 := by
  unfold fPerm
  show (if (0 : Int) ≤ 6 ∧ (6 : Int) ≤ 1000 then (match permD 6 with | some ds => R.ok ds st6 | none => .no) else .no) = _
  rw [if_pos (by decide), perm6]
theorem ord6 : F_orders [.imm (.int 6)] = .ret (.tmp ords6) [.imm (.int 6)] :=
  mkF_tmp rfl (s := st6) (seq_nx (s1 := st6) (by kernel_rfl) (seq_nx (s1 := st6) (ifS_f (s1 := st6) (by kernel_rfl) rfl) (ret_tmp (lc_ok (s1 := st6) (s2 := st6) pf6 rfl lo6 rfl)))) rfl
theorem all6 : F__law_all_orders [.imm (.int 6)] = .ret (.tmp ords6) [.imm (.int 6)] := by
  obtain ⟨o2, h⟩ := for6
  refine mkF_tmp rfl (s := T6 6 o2 (some (.list p6)) p6 (some (.int 5))) (seq_nx (s1 := [some (.imm (.int 6)), none, none, none, some (.imm (.list [.tuple []])), none]) (by kernel_rfl) (seq_nx h (ret_tmp (lc_ok (s1 := T6 6 o2 (some (.list p6)) p6 (some (.int 5))) (s2 := su6) (it_list rfl) ?_ la6 ?_)))) rfl
  · cases o2 <;> rfl
  · rfl
theorem nob1 : bitsB 1 0 codes1 = true := by kernel_rfl
theorem tab1 : Tab 1 ords1 codes1 := ⟨by decide +kernel, by decide +kernel, ord1, all1, weak1, by kernel_rfl, by kernel_rfl, chks1, fun i j c => bits_get nob1⟩
theorem nob2 : bitsB 5 0 codes2 = true := by kernel_rfl
theorem tab2 : Tab 2 ords2 codes2 := ⟨by decide +kernel, by decide +kernel, ord2, all2, weak2, by kernel_rfl, by kernel_rfl, chks2, fun i j c => bits_get nob2⟩
theorem nob3 : bitsB 7 0 codes3 = true := by kernel_rfl
theorem tab3 : Tab 3 ords3 codes3 := ⟨by decide +kernel, by decide +kernel, ord3, all3, weak3, by kernel_rfl, by kernel_rfl, chks3, fun i j c => bits_get nob3⟩
theorem nob4 : bitsB 95 0 codes4 = true := by kernel_rfl
theorem tab4 : Tab 4 ords4 codes4 := ⟨by decide +kernel, by decide +kernel, ord4, all4, weak4, by kernel_rfl, by kernel_rfl, chks4, fun i j c => bits_get nob4⟩
theorem nob5 : bitsB 841 0 codes5 = true := by kernel_rfl
theorem tab5 : Tab 5 ords5 codes5 := ⟨by decide +kernel, by decide +kernel, ord5, all5, weak5, by kernel_rfl, by kernel_rfl, chks5, fun i j c => bits_get nob5⟩
theorem nob6 : bitsB 14171 0 codes6 = true := by kernel_rfl
theorem tab6 : Tab 6 ords6 codes6 := ⟨by decide +kernel, by decide +kernel, ord6, all6, weak6, by kernel_rfl, by kernel_rfl, chks6, fun i j c => bits_get nob6⟩
theorem tabs (m : Int) (h1 : 1 ≤ m) (h2 : m ≤ 6) : ∃ ds cs, Tab m ds cs := by
  obtain rfl | rfl | rfl | rfl | rfl | rfl : m = 1 ∨ m = 2 ∨ m = 3 ∨ m = 4 ∨ m = 5 ∨ m = 6 := by omega
  · exact ⟨_, _, tab1⟩
  · exact ⟨_, _, tab2⟩
  · exact ⟨_, _, tab3⟩
  · exact ⟨_, _, tab4⟩
  · exact ⟨_, _, tab5⟩
  · exact ⟨_, _, tab6⟩
theorem law_true (ns : List Int) : ∃ as', F_law [.imm (.list (ns.map .int))] = .ret (.imm (.bool true)) as' := law_ok ns tabs
end DLP
end

set_option Elab.async false
set_option linter.all false
set_option maxRecDepth 100000
set_option maxHeartbeats 8000000
noncomputable section
namespace DLP
open PySem PySem.Spec PyProof.Rows L2 DL
theorem all_mk {P : Program} {w : World} {K : PySem.W.Frag} {h : Heap} {mg : Str → Option Value} {fa : Addr} (X : K.In h) (Gm : h.Ns mainGlobals mg) (hfa : mg "law" = some (.ref fa))
    {f10 f14 f15 f16 f17 f18 f19 f20 f21 f22 f23 f25 f27 f28 f29 f30 f31 f32 f33 f34 f35 f36 f37 f38 : Addr}
    {od10 an10 od14 an14 od15 an15 od16 an16 od17 an17 od18 an18 od19 an19 od20 an20 od21 an21 od22 an22 od23 an23 od25 an25 od27 an27 od28 an28 od29 an29 od30 an30 od31 an31 od32 an32 od33 an33 od34 an34 od35 an35 od36 an36 od37 an37 od38 an38 : Option Addr}
    {sl10 sl14 sl15 sl16 sl17 sl18 sl19 sl20 sl21 sl22 sl23 sl25 sl27 sl28 sl29 sl30 sl31 sl32 sl33 sl34 sl35 sl36 sl37 sl38 : Array (Option Value)}
    {oc10 kV10 dc10 pm10 cd10 ct10 oc14 kV14 dc14 pm14 cd14 ct14 oc15 kV15 dc15 pm15 cd15 ct15 oc16 kV16 dc16 pm16 cd16 ct16 oc17 kV17 dc17 pm17 cd17 ct17 oc18 kV18 dc18 pm18 cd18 ct18 oc19 kV19 dc19 pm19 cd19 ct19 oc20 kV20 dc20 pm20 cd20 ct20 oc21 kV21 dc21 pm21 cd21 ct21 oc22 kV22 dc22 pm22 cd22 ct22 oc23 kV23 dc23 pm23 cd23 ct23 oc25 kV25 dc25 pm25 cd25 ct25 oc27 kV27 dc27 pm27 cd27 ct27 oc28 kV28 dc28 pm28 cd28 ct28 oc29 kV29 dc29 pm29 cd29 ct29 oc30 kV30 dc30 pm30 cd30 ct30 oc31 kV31 dc31 pm31 cd31 ct31 oc32 kV32 dc32 pm32 cd32 ct32 oc33 kV33 dc33 pm33 cd33 ct33 oc34 kV34 dc34 pm34 cd34 ct34 oc35 kV35 dc35 pm35 cd35 ct35 oc36 kV36 dc36 pm36 cd36 ct36 oc37 kV37 dc37 pm37 cd37 ct37 oc38 kV38 dc38 pm38 cd38 ct38 : Value}
    {t9 : Tok}
    {t12 : Tok}
    {t13 : Tok}
    {C2 : Addr}
    {C3 : Addr}
    {C4 : Addr}
    {C5 : Addr}
    {C6 : Addr}
    {nm6 q6 : Str} {N6 I6 : Addr} {bs6 : List Value} {sn6 : List Str} {sub6 : List Value} {ab6 : Bool} {col6 : Option Bool} {dd6 od6 an6 : Option Addr} {m06 m16 m26 m36 m56 : Option Value} {slI6 : Array (Option Value)} {oc6 dc6 pm6 cd6 ct6 kV6 : Value}
    {C7 : Addr}
    {nm7 q7 : Str} {N7 I7 : Addr} {bs7 : List Value} {sn7 : List Str} {sub7 : List Value} {ab7 : Bool} {col7 : Option Bool} {dd7 od7 an7 : Option Addr} {m07 m17 m27 m37 m57 : Option Value} {slI7 : Array (Option Value)} {oc7 dc7 pm7 cd7 ct7 kV7 : Value}
    (a10 : PySem.W.nsIn K mainGlobals "is_integer" = some (some (.ref f10)))
    (l10 : K.lookup f10 = some ⟨oc10, od10, .func (PySem.W.fnOf "is_integer" "is_integer" (defArgs (topS 10)) (defBody (topS 10)) (defScope (topS 10)) .none kV10 dc10 pm10 an10 cd10 ct10), sl10⟩)
    (c10 : PySem.W.codeIn K cd10 "is_integer" = true)
    (k10 : PySem.W.keepIn K (.ref f10) = true)
    (a14 : PySem.W.nsIn K mainGlobals "is_order" = some (some (.ref f14)))
    (l14 : K.lookup f14 = some ⟨oc14, od14, .func (PySem.W.fnOf "is_order" "is_order" (defArgs (topS 14)) (defBody (topS 14)) (defScope (topS 14)) .none kV14 dc14 pm14 an14 cd14 ct14), sl14⟩)
    (c14 : PySem.W.codeIn K cd14 "is_order" = true)
    (k14 : PySem.W.keepIn K (.ref f14) = true)
    (a15 : PySem.W.nsIn K mainGlobals "need_order" = some (some (.ref f15)))
    (l15 : K.lookup f15 = some ⟨oc15, od15, .func (PySem.W.fnOf "need_order" "need_order" (defArgs (topS 15)) (defBody (topS 15)) (defScope (topS 15)) .none kV15 dc15 pm15 an15 cd15 ct15), sl15⟩)
    (c15 : PySem.W.codeIn K cd15 "need_order" = true)
    (k15 : PySem.W.keepIn K (.ref f15) = true)
    (a16 : PySem.W.nsIn K mainGlobals "is_bar" = some (some (.ref f16)))
    (l16 : K.lookup f16 = some ⟨oc16, od16, .func (PySem.W.fnOf "is_bar" "is_bar" (defArgs (topS 16)) (defBody (topS 16)) (defScope (topS 16)) .none kV16 dc16 pm16 an16 cd16 ct16), sl16⟩)
    (c16 : PySem.W.codeIn K cd16 "is_bar" = true)
    (k16 : PySem.W.keepIn K (.ref f16) = true)
    (a17 : PySem.W.nsIn K mainGlobals "first_bar" = some (some (.ref f17)))
    (l17 : K.lookup f17 = some ⟨oc17, od17, .func (PySem.W.fnOf "first_bar" "first_bar" (defArgs (topS 17)) (defBody (topS 17)) (defScope (topS 17)) .none kV17 dc17 pm17 an17 cd17 ct17), sl17⟩)
    (c17 : PySem.W.codeIn K cd17 "first_bar" = true)
    (k17 : PySem.W.keepIn K (.ref f17) = true)
    (a18 : PySem.W.nsIn K mainGlobals "rooms_of_order" = some (some (.ref f18)))
    (l18 : K.lookup f18 = some ⟨oc18, od18, .func (PySem.W.fnOf "rooms_of_order" "rooms_of_order" (defArgs (topS 18)) (defBody (topS 18)) (defScope (topS 18)) .none kV18 dc18 pm18 an18 cd18 ct18), sl18⟩)
    (c18 : PySem.W.codeIn K cd18 "rooms_of_order" = true)
    (k18 : PySem.W.keepIn K (.ref f18) = true)
    (a19 : PySem.W.nsIn K mainGlobals "floor_of_order" = some (some (.ref f19)))
    (l19 : K.lookup f19 = some ⟨oc19, od19, .func (PySem.W.fnOf "floor_of_order" "floor_of_order" (defArgs (topS 19)) (defBody (topS 19)) (defScope (topS 19)) .none kV19 dc19 pm19 an19 cd19 ct19), sl19⟩)
    (c19 : PySem.W.codeIn K cd19 "floor_of_order" = true)
    (k19 : PySem.W.keepIn K (.ref f19) = true)
    (a20 : PySem.W.nsIn K mainGlobals "need_count" = some (some (.ref f20)))
    (l20 : K.lookup f20 = some ⟨oc20, od20, .func (PySem.W.fnOf "need_count" "need_count" (defArgs (topS 20)) (defBody (topS 20)) (defScope (topS 20)) .none kV20 dc20 pm20 an20 cd20 ct20), sl20⟩)
    (c20 : PySem.W.codeIn K cd20 "need_count" = true)
    (k20 : PySem.W.keepIn K (.ref f20) = true)
    (a21 : PySem.W.nsIn K mainGlobals "choices" = some (some (.ref f21)))
    (l21 : K.lookup f21 = some ⟨oc21, od21, .func (PySem.W.fnOf "choices" "choices" (defArgs (topS 21)) (defBody (topS 21)) (defScope (topS 21)) .none kV21 dc21 pm21 an21 cd21 ct21), sl21⟩)
    (c21 : PySem.W.codeIn K cd21 "choices" = true)
    (k21 : PySem.W.keepIn K (.ref f21) = true)
    (a22 : PySem.W.nsIn K mainGlobals "weak_count" = some (some (.ref f22)))
    (l22 : K.lookup f22 = some ⟨oc22, od22, .func (PySem.W.fnOf "weak_count" "weak_count" (defArgs (topS 22)) (defBody (topS 22)) (defScope (topS 22)) .none kV22 dc22 pm22 an22 cd22 ct22), sl22⟩)
    (c22 : PySem.W.codeIn K cd22 "weak_count" = true)
    (k22 : PySem.W.keepIn K (.ref f22) = true)
    (a23 : PySem.W.nsIn K mainGlobals "orders" = some (some (.ref f23)))
    (l23 : K.lookup f23 = some ⟨oc23, od23, .func (PySem.W.fnOf "orders" "orders" (defArgs (topS 23)) (defBody (topS 23)) (defScope (topS 23)) .none kV23 dc23 pm23 an23 cd23 ct23), sl23⟩)
    (c23 : PySem.W.codeIn K cd23 "orders" = true)
    (k23 : PySem.W.keepIn K (.ref f23) = true)
    (a25 : PySem.W.nsIn K mainGlobals "order_number" = some (some (.ref f25)))
    (l25 : K.lookup f25 = some ⟨oc25, od25, .func (PySem.W.fnOf "order_number" "order_number" (defArgs (topS 25)) (defBody (topS 25)) (defScope (topS 25)) .none kV25 dc25 pm25 an25 cd25 ct25), sl25⟩)
    (c25 : PySem.W.codeIn K cd25 "order_number" = true)
    (k25 : PySem.W.keepIn K (.ref f25) = true)
    (a27 : PySem.W.nsIn K mainGlobals "_law_hand" = some (some (.ref f27)))
    (l27 : K.lookup f27 = some ⟨oc27, od27, .func (PySem.W.fnOf "_law_hand" "_law_hand" (defArgs (topS 27)) (defBody (topS 27)) (defScope (topS 27)) .none kV27 dc27 pm27 an27 cd27 ct27), sl27⟩)
    (c27 : PySem.W.codeIn K cd27 "_law_hand" = true)
    (k27 : PySem.W.keepIn K (.ref f27) = true)
    (a28 : PySem.W.nsIn K mainGlobals "_law_draw" = some (some (.ref f28)))
    (l28 : K.lookup f28 = some ⟨oc28, od28, .func (PySem.W.fnOf "_law_draw" "_law_draw" (defArgs (topS 28)) (defBody (topS 28)) (defScope (topS 28)) .none kV28 dc28 pm28 an28 cd28 ct28), sl28⟩)
    (c28 : PySem.W.codeIn K cd28 "_law_draw" = true)
    (k28 : PySem.W.keepIn K (.ref f28) = true)
    (a29 : PySem.W.nsIn K mainGlobals "_law_some" = some (some (.ref f29)))
    (l29 : K.lookup f29 = some ⟨oc29, od29, .func (PySem.W.fnOf "_law_some" "_law_some" (defArgs (topS 29)) (defBody (topS 29)) (defScope (topS 29)) .none kV29 dc29 pm29 an29 cd29 ct29), sl29⟩)
    (c29 : PySem.W.codeIn K cd29 "_law_some" = true)
    (k29 : PySem.W.keepIn K (.ref f29) = true)
    (a30 : PySem.W.nsIn K mainGlobals "_law_kept" = some (some (.ref f30)))
    (l30 : K.lookup f30 = some ⟨oc30, od30, .func (PySem.W.fnOf "_law_kept" "_law_kept" (defArgs (topS 30)) (defBody (topS 30)) (defScope (topS 30)) .none kV30 dc30 pm30 an30 cd30 ct30), sl30⟩)
    (c30 : PySem.W.codeIn K cd30 "_law_kept" = true)
    (k30 : PySem.W.keepIn K (.ref f30) = true)
    (a31 : PySem.W.nsIn K mainGlobals "_law_pieces" = some (some (.ref f31)))
    (l31 : K.lookup f31 = some ⟨oc31, od31, .func (PySem.W.fnOf "_law_pieces" "_law_pieces" (defArgs (topS 31)) (defBody (topS 31)) (defScope (topS 31)) .none kV31 dc31 pm31 an31 cd31 ct31), sl31⟩)
    (c31 : PySem.W.codeIn K cd31 "_law_pieces" = true)
    (k31 : PySem.W.keepIn K (.ref f31) = true)
    (a32 : PySem.W.nsIn K mainGlobals "_law_bound" = some (some (.ref f32)))
    (l32 : K.lookup f32 = some ⟨oc32, od32, .func (PySem.W.fnOf "_law_bound" "_law_bound" (defArgs (topS 32)) (defBody (topS 32)) (defScope (topS 32)) .none kV32 dc32 pm32 an32 cd32 ct32), sl32⟩)
    (c32 : PySem.W.codeIn K cd32 "_law_bound" = true)
    (k32 : PySem.W.keepIn K (.ref f32) = true)
    (a33 : PySem.W.nsIn K mainGlobals "_law_bounds" = some (some (.ref f33)))
    (l33 : K.lookup f33 = some ⟨oc33, od33, .func (PySem.W.fnOf "_law_bounds" "_law_bounds" (defArgs (topS 33)) (defBody (topS 33)) (defScope (topS 33)) .none kV33 dc33 pm33 an33 cd33 ct33), sl33⟩)
    (c33 : PySem.W.codeIn K cd33 "_law_bounds" = true)
    (k33 : PySem.W.keepIn K (.ref f33) = true)
    (a34 : PySem.W.nsIn K mainGlobals "_law_named" = some (some (.ref f34)))
    (l34 : K.lookup f34 = some ⟨oc34, od34, .func (PySem.W.fnOf "_law_named" "_law_named" (defArgs (topS 34)) (defBody (topS 34)) (defScope (topS 34)) .none kV34 dc34 pm34 an34 cd34 ct34), sl34⟩)
    (c34 : PySem.W.codeIn K cd34 "_law_named" = true)
    (k34 : PySem.W.keepIn K (.ref f34) = true)
    (a35 : PySem.W.nsIn K mainGlobals "_law_first_bar" = some (some (.ref f35)))
    (l35 : K.lookup f35 = some ⟨oc35, od35, .func (PySem.W.fnOf "_law_first_bar" "_law_first_bar" (defArgs (topS 35)) (defBody (topS 35)) (defScope (topS 35)) .none kV35 dc35 pm35 an35 cd35 ct35), sl35⟩)
    (c35 : PySem.W.codeIn K cd35 "_law_first_bar" = true)
    (k35 : PySem.W.keepIn K (.ref f35) = true)
    (a36 : PySem.W.nsIn K mainGlobals "_law_all_orders" = some (some (.ref f36)))
    (l36 : K.lookup f36 = some ⟨oc36, od36, .func (PySem.W.fnOf "_law_all_orders" "_law_all_orders" (defArgs (topS 36)) (defBody (topS 36)) (defScope (topS 36)) .none kV36 dc36 pm36 an36 cd36 ct36), sl36⟩)
    (c36 : PySem.W.codeIn K cd36 "_law_all_orders" = true)
    (k36 : PySem.W.keepIn K (.ref f36) = true)
    (a37 : PySem.W.nsIn K mainGlobals "_law_refusal" = some (some (.ref f37)))
    (l37 : K.lookup f37 = some ⟨oc37, od37, .func (PySem.W.fnOf "_law_refusal" "_law_refusal" (defArgs (topS 37)) (defBody (topS 37)) (defScope (topS 37)) .none kV37 dc37 pm37 an37 cd37 ct37), sl37⟩)
    (c37 : PySem.W.codeIn K cd37 "_law_refusal" = true)
    (k37 : PySem.W.keepIn K (.ref f37) = true)
    (a38 : PySem.W.nsIn K mainGlobals "law" = some (some (.ref f38)))
    (l38 : K.lookup f38 = some ⟨oc38, od38, .func (PySem.W.fnOf "law" "law" (defArgs (topS 38)) (defBody (topS 38)) (defScope (topS 38)) .none kV38 dc38 pm38 an38 cd38 ct38), sl38⟩)
    (c38 : PySem.W.codeIn K cd38 "law" = true)
    (k38 : PySem.W.keepIn K (.ref f38) = true)
    (a9 : PySem.W.nsIn K mainGlobals "MOST_ROOMS" = some (some (.int 24 t9)))
    (a12 : PySem.W.nsIn K mainGlobals "MOST_COUNTED" = some (some (.int 200 t12)))
    (a13 : PySem.W.nsIn K mainGlobals "MOST_LISTED" = some (some (.int 7 t13)))
    (z_abs : PySem.W.nsIn K mainGlobals "abs" = some none)
    (z_all : PySem.W.nsIn K mainGlobals "all" = some none)
    (z_bool : PySem.W.nsIn K mainGlobals "bool" = some none)
    (z_enumerate : PySem.W.nsIn K mainGlobals "enumerate" = some none)
    (z_int : PySem.W.nsIn K mainGlobals "int" = some none)
    (z_isinstance : PySem.W.nsIn K mainGlobals "isinstance" = some none)
    (z_len : PySem.W.nsIn K mainGlobals "len" = some none)
    (z_list : PySem.W.nsIn K mainGlobals "list" = some none)
    (z_max : PySem.W.nsIn K mainGlobals "max" = some none)
    (z_min : PySem.W.nsIn K mainGlobals "min" = some none)
    (z_range : PySem.W.nsIn K mainGlobals "range" = some none)
    (z_set : PySem.W.nsIn K mainGlobals "set" = some none)
    (z_sorted : PySem.W.nsIn K mainGlobals "sorted" = some none)
    (z_str : PySem.W.nsIn K mainGlobals "str" = some none)
    (z_tuple : PySem.W.nsIn K mainGlobals "tuple" = some none)
    (p_permutations : PySem.W.nsIn K mainGlobals "permutations" = some (some (.type "itertools.permutations")))
    (g2 : PySem.W.nsIn K mainGlobals "FloorError" = some (some (.ref C2)))
    (s2 : PySem.W.subIn K (.ref C2) (.type "BaseException") = some true)
    (t2 : PySem.W.typeIn K (.ref C2) = some (.type "type"))
    (k2 : PySem.W.keepIn K (.ref C2) = true)
    (q2 : PySem.W.excIn K C2 [.type "ValueError", .type "Exception", .type "BaseException", .type "object"] "ValueError.__new__" = true)
    (g3 : PySem.W.nsIn K mainGlobals "NoOrder" = some (some (.ref C3)))
    (s3 : PySem.W.subIn K (.ref C3) (.type "BaseException") = some true)
    (t3 : PySem.W.typeIn K (.ref C3) = some (.type "type"))
    (k3 : PySem.W.keepIn K (.ref C3) = true)
    (q3 : PySem.W.excIn K C3 [.type "ValueError", .type "Exception", .type "BaseException", .type "object"] "ValueError.__new__" = true)
    (g4 : PySem.W.nsIn K mainGlobals "NoNumber" = some (some (.ref C4)))
    (s4 : PySem.W.subIn K (.ref C4) (.type "BaseException") = some true)
    (t4 : PySem.W.typeIn K (.ref C4) = some (.type "type"))
    (k4 : PySem.W.keepIn K (.ref C4) = true)
    (q4 : PySem.W.excIn K C4 [.type "ValueError", .type "Exception", .type "BaseException", .type "object"] "ValueError.__new__" = true)
    (g5 : PySem.W.nsIn K mainGlobals "NoCount" = some (some (.ref C5)))
    (s5 : PySem.W.subIn K (.ref C5) (.type "BaseException") = some true)
    (t5 : PySem.W.typeIn K (.ref C5) = some (.type "type"))
    (k5 : PySem.W.keepIn K (.ref C5) = true)
    (q5 : PySem.W.excIn K C5 [.type "ValueError", .type "Exception", .type "BaseException", .type "object"] "ValueError.__new__" = true)
    (g6 : PySem.W.nsIn K mainGlobals "TooMany" = some (some (.ref C6)))
    (s6 : PySem.W.subIn K (.ref C6) (.type "BaseException") = some true)
    (t6 : PySem.W.typeIn K (.ref C6) = some (.type "type"))
    (k6 : PySem.W.keepIn K (.ref C6) = true)
    (x6 : K.lookup C6 = some (excClassObj nm6 q6 C6 N6 bs6 ([.ref C2, .type "ValueError", .type "Exception", .type "BaseException", .type "object"]) true sn6 sub6 ab6 col6 dd6 m06 m16 m26 m36 m56 "ValueError.__new__"))
    (sa6 : PySem.W.findIn K (.ref C6) "__setattr__" = some (some (.builtin "object.__setattr__")))
    (ga6 : PySem.W.findIn K (.ref C6) "__getattribute__" = some (some (.builtin "BaseException.__getattribute__")))
    (gg6 : PySem.W.findIn K (.ref C6) "__getattr__" = some none)
    (nb6 : PySem.W.findIn K (.ref C6) "most" = some none)
    (hd6 : PySem.W.hasDictIn K C6 = true)
    (fi6 : PySem.W.findIn K (.ref C6) "__init__" = some (some (.ref I6)))
    (ti6 : PySem.W.typeIn K (.ref I6) = some (.type "function"))
    (l6 : K.lookup I6 = some ⟨oc6, od6, .func (PySem.W.fnOf "__init__" "TooMany.__init__" (defArgs (iniS 6 0)) (defBody (iniS 6 0)) (defScope (iniS 6 0)) .none kV6 dc6 pm6 an6 cd6 ct6), slI6⟩)
    (c6 : PySem.W.codeIn K cd6 "TooMany.__init__" = true)
    (ki6 : PySem.W.keepIn K (.ref I6) = true)
    (g7 : PySem.W.nsIn K mainGlobals "BadOrder" = some (some (.ref C7)))
    (s7 : PySem.W.subIn K (.ref C7) (.type "BaseException") = some true)
    (t7 : PySem.W.typeIn K (.ref C7) = some (.type "type"))
    (k7 : PySem.W.keepIn K (.ref C7) = true)
    (x7 : K.lookup C7 = some (excClassObj nm7 q7 C7 N7 bs7 ([.ref C2, .type "ValueError", .type "Exception", .type "BaseException", .type "object"]) true sn7 sub7 ab7 col7 dd7 m07 m17 m27 m37 m57 "ValueError.__new__"))
    (sa7 : PySem.W.findIn K (.ref C7) "__setattr__" = some (some (.builtin "object.__setattr__")))
    (ga7 : PySem.W.findIn K (.ref C7) "__getattribute__" = some (some (.builtin "BaseException.__getattribute__")))
    (gg7 : PySem.W.findIn K (.ref C7) "__getattr__" = some none)
    (nb7 : PySem.W.findIn K (.ref C7) "bar" = some none)
    (hd7 : PySem.W.hasDictIn K C7 = true)
    (fi7 : PySem.W.findIn K (.ref C7) "__init__" = some (some (.ref I7)))
    (ti7 : PySem.W.typeIn K (.ref I7) = some (.type "function"))
    (l7 : K.lookup I7 = some ⟨oc7, od7, .func (PySem.W.fnOf "__init__" "BadOrder.__init__" (defArgs (iniS 7 0)) (defBody (iniS 7 0)) (defScope (iniS 7 0)) .none kV7 dc7 pm7 an7 cd7 ct7), slI7⟩)
    (c7 : PySem.W.codeIn K cd7 "BadOrder.__init__" = true)
    (ki7 : PySem.W.keepIn K (.ref I7) = true)
    (ic2 : PySem.W.isClsIn K C2 = true)
    (e2_2 : PySem.W.subIn K (.ref C2) (.ref C2) = some true)
    (e3_2 : PySem.W.subIn K (.ref C3) (.ref C2) = some true)
    (e4_2 : PySem.W.subIn K (.ref C4) (.ref C2) = some true)
    (e5_2 : PySem.W.subIn K (.ref C5) (.ref C2) = some true)
    (e6_2 : PySem.W.subIn K (.ref C6) (.ref C2) = some true)
    (e7_2 : PySem.W.subIn K (.ref C7) (.ref C2) = some true)
    (ic5 : PySem.W.isClsIn K C5 = true)
    (e2_5 : PySem.W.subIn K (.ref C2) (.ref C5) = some false)
    (e3_5 : PySem.W.subIn K (.ref C3) (.ref C5) = some false)
    (e4_5 : PySem.W.subIn K (.ref C4) (.ref C5) = some false)
    (e5_5 : PySem.W.subIn K (.ref C5) (.ref C5) = some true)
    (e6_5 : PySem.W.subIn K (.ref C6) (.ref C5) = some false)
    (e7_5 : PySem.W.subIn K (.ref C7) (.ref C5) = some false)
    (ic4 : PySem.W.isClsIn K C4 = true)
    (e2_4 : PySem.W.subIn K (.ref C2) (.ref C4) = some false)
    (e3_4 : PySem.W.subIn K (.ref C3) (.ref C4) = some false)
    (e4_4 : PySem.W.subIn K (.ref C4) (.ref C4) = some true)
    (e5_4 : PySem.W.subIn K (.ref C5) (.ref C4) = some false)
    (e6_4 : PySem.W.subIn K (.ref C6) (.ref C4) = some false)
    (e7_4 : PySem.W.subIn K (.ref C7) (.ref C4) = some false)
    (ic6 : PySem.W.isClsIn K C6 = true)
    (e2_6 : PySem.W.subIn K (.ref C2) (.ref C6) = some false)
    (e3_6 : PySem.W.subIn K (.ref C3) (.ref C6) = some false)
    (e4_6 : PySem.W.subIn K (.ref C4) (.ref C6) = some false)
    (e5_6 : PySem.W.subIn K (.ref C5) (.ref C6) = some false)
    (e6_6 : PySem.W.subIn K (.ref C6) (.ref C6) = some true)
    (e7_6 : PySem.W.subIn K (.ref C7) (.ref C6) = some false) :
    ∃ fd : FuncData, (∀ (s : Shared) (v : Value), BindsTo s fd ⟨[v], []⟩ [("script", v)]) ∧ ∀ base : Heap, K.In base → base.Ns mainGlobals mg → FnOk P w K mg base (L2.CX P w) 14 fa fd ["script"] (spT K) := by
  have e := hfa.symm.trans (PySem.W.mg_of X Gm a38)
  cases e
  let g : G K mg := {
    a_is_integer := f10, d_is_integer := _, F_is_integer := fun_mk (st := topS 10) l10 c10 k10, b_is_integer := (fun_mk (st := topS 10) l10 c10 k10).binds (ps := ["thing"]) (fun _ _ _ _ _ _ us hl => match us, hl with | [_], _ => rfl), g_is_integer := PySem.W.mg_of X Gm a10,
    a_is_order := f14, d_is_order := _, F_is_order := fun_mk (st := topS 14) l14 c14 k14, b_is_order := (fun_mk (st := topS 14) l14 c14 k14).binds (ps := ["thing"]) (fun _ _ _ _ _ _ us hl => match us, hl with | [_], _ => rfl), g_is_order := PySem.W.mg_of X Gm a14,
    a_need_order := f15, d_need_order := _, F_need_order := fun_mk (st := topS 15) l15 c15 k15, b_need_order := (fun_mk (st := topS 15) l15 c15 k15).binds (ps := ["thing"]) (fun _ _ _ _ _ _ us hl => match us, hl with | [_], _ => rfl), g_need_order := PySem.W.mg_of X Gm a15,
    a_is_bar := f16, d_is_bar := _, F_is_bar := fun_mk (st := topS 16) l16 c16 k16, b_is_bar := (fun_mk (st := topS 16) l16 c16 k16).binds (ps := ["order", "i", "j", "k"]) (fun _ _ _ _ _ _ us hl => match us, hl with | [_, _, _, _], _ => rfl), g_is_bar := PySem.W.mg_of X Gm a16,
    a_first_bar := f17, d_first_bar := _, F_first_bar := fun_mk (st := topS 17) l17 c17 k17, b_first_bar := (fun_mk (st := topS 17) l17 c17 k17).binds (ps := ["order"]) (fun _ _ _ _ _ _ us hl => match us, hl with | [_], _ => rfl), g_first_bar := PySem.W.mg_of X Gm a17,
    a_rooms_of_order := f18, d_rooms_of_order := _, F_rooms_of_order := fun_mk (st := topS 18) l18 c18 k18, b_rooms_of_order := (fun_mk (st := topS 18) l18 c18 k18).binds (ps := ["order"]) (fun _ _ _ _ _ _ us hl => match us, hl with | [_], _ => rfl), g_rooms_of_order := PySem.W.mg_of X Gm a18,
    a_floor_of_order := f19, d_floor_of_order := _, F_floor_of_order := fun_mk (st := topS 19) l19 c19 k19, b_floor_of_order := (fun_mk (st := topS 19) l19 c19 k19).binds (ps := ["order"]) (fun _ _ _ _ _ _ us hl => match us, hl with | [_], _ => rfl), g_floor_of_order := PySem.W.mg_of X Gm a19,
    a_need_count := f20, d_need_count := _, F_need_count := fun_mk (st := topS 20) l20 c20 k20, b_need_count := (fun_mk (st := topS 20) l20 c20 k20).binds (ps := ["many", "most"]) (fun _ _ _ _ _ _ us hl => match us, hl with | [_, _], _ => rfl), g_need_count := PySem.W.mg_of X Gm a20,
    a_choices := f21, d_choices := _, F_choices := fun_mk (st := topS 21) l21 c21 k21, b_choices := (fun_mk (st := topS 21) l21 c21 k21).binds (ps := ["many", "some"]) (fun _ _ _ _ _ _ us hl => match us, hl with | [_, _], _ => rfl), g_choices := PySem.W.mg_of X Gm a21,
    a_weak_count := f22, d_weak_count := _, F_weak_count := fun_mk (st := topS 22) l22 c22 k22, b_weak_count := (fun_mk (st := topS 22) l22 c22 k22).binds (ps := ["many"]) (fun _ _ _ _ _ _ us hl => match us, hl with | [_], _ => rfl), g_weak_count := PySem.W.mg_of X Gm a22,
    a_orders := f23, d_orders := _, F_orders := fun_mk (st := topS 23) l23 c23 k23, b_orders := (fun_mk (st := topS 23) l23 c23 k23).binds (ps := ["many"]) (fun _ _ _ _ _ _ us hl => match us, hl with | [_], _ => rfl), g_orders := PySem.W.mg_of X Gm a23,
    a_order_number := f25, d_order_number := _, F_order_number := fun_mk (st := topS 25) l25 c25 k25, b_order_number := (fun_mk (st := topS 25) l25 c25 k25).binds (ps := ["many", "number"]) (fun _ _ _ _ _ _ us hl => match us, hl with | [_, _], _ => rfl), g_order_number := PySem.W.mg_of X Gm a25,
    a__law_hand := f27, d__law_hand := _, F__law_hand := fun_mk (st := topS 27) l27 c27 k27, b__law_hand := (fun_mk (st := topS 27) l27 c27 k27).binds (ps := ["script"]) (fun _ _ _ _ _ _ us hl => match us, hl with | [_], _ => rfl), g__law_hand := PySem.W.mg_of X Gm a27,
    a__law_draw := f28, d__law_draw := _, F__law_draw := fun_mk (st := topS 28) l28 c28 k28, b__law_draw := (fun_mk (st := topS 28) l28 c28 k28).binds (ps := ["hand", "many"]) (fun _ _ _ _ _ _ us hl => match us, hl with | [_, _], _ => rfl), g__law_draw := PySem.W.mg_of X Gm a28,
    a__law_some := f29, d__law_some := _, F__law_some := fun_mk (st := topS 29) l29 c29 k29, b__law_some := (fun_mk (st := topS 29) l29 c29 k29).binds (ps := ["hand", "things"]) (fun _ _ _ _ _ _ us hl => match us, hl with | [_, _], _ => rfl), g__law_some := PySem.W.mg_of X Gm a29,
    a__law_kept := f30, d__law_kept := _, F__law_kept := fun_mk (st := topS 30) l30 c30 k30, b__law_kept := (fun_mk (st := topS 30) l30 c30 k30).binds (ps := ["told", "due"]) (fun _ _ _ _ _ _ us hl => match us, hl with | [_, _], _ => rfl), g__law_kept := PySem.W.mg_of X Gm a30,
    a__law_pieces := f31, d__law_pieces := _, F__law_pieces := fun_mk (st := topS 31) l31 c31 k31, b__law_pieces := (fun_mk (st := topS 31) l31 c31 k31).binds (ps := ["rooms", "kind", "at"]) (fun _ _ _ _ _ _ us hl => match us, hl with | [_, _, _], _ => rfl), g__law_pieces := PySem.W.mg_of X Gm a31,
    a__law_bound := f32, d__law_bound := _, F__law_bound := fun_mk (st := topS 32) l32 c32 k32, b__law_bound := (fun_mk (st := topS 32) l32 c32 k32).binds (ps := ["kind", "at", "pieces"]) (fun _ _ _ _ _ _ us hl => match us, hl with | [_, _, _], _ => rfl), g__law_bound := PySem.W.mg_of X Gm a32,
    a__law_bounds := f33, d__law_bounds := _, F__law_bounds := fun_mk (st := topS 33) l33 c33 k33, b__law_bounds := (fun_mk (st := topS 33) l33 c33 k33).binds (ps := ["rooms"]) (fun _ _ _ _ _ _ us hl => match us, hl with | [_], _ => rfl), g__law_bounds := PySem.W.mg_of X Gm a33,
    a__law_named := f34, d__law_named := _, F__law_named := fun_mk (st := topS 34) l34 c34 k34, b__law_named := (fun_mk (st := topS 34) l34 c34 k34).binds (ps := ["rooms"]) (fun _ _ _ _ _ _ us hl => match us, hl with | [_], _ => rfl), g__law_named := PySem.W.mg_of X Gm a34,
    a__law_first_bar := f35, d__law_first_bar := _, F__law_first_bar := fun_mk (st := topS 35) l35 c35 k35, b__law_first_bar := (fun_mk (st := topS 35) l35 c35 k35).binds (ps := ["order"]) (fun _ _ _ _ _ _ us hl => match us, hl with | [_], _ => rfl), g__law_first_bar := PySem.W.mg_of X Gm a35,
    a__law_all_orders := f36, d__law_all_orders := _, F__law_all_orders := fun_mk (st := topS 36) l36 c36 k36, b__law_all_orders := (fun_mk (st := topS 36) l36 c36 k36).binds (ps := ["many"]) (fun _ _ _ _ _ _ us hl => match us, hl with | [_], _ => rfl), g__law_all_orders := PySem.W.mg_of X Gm a36,
    a__law_refusal := f37, d__law_refusal := _, F__law_refusal := fun_mk (st := topS 37) l37 c37 k37, b__law_refusal := (fun_mk (st := topS 37) l37 c37 k37).binds (ps := ["kind", "many", "number"]) (fun _ _ _ _ _ _ us hl => match us, hl with | [_, _, _], _ => rfl), g__law_refusal := PySem.W.mg_of X Gm a37,
    a_law := fa, d_law := _, F_law := fun_mk (st := topS 38) l38 c38 k38, b_law := (fun_mk (st := topS 38) l38 c38 k38).binds (ps := ["script"]) (fun _ _ _ _ _ _ us hl => match us, hl with | [_], _ => rfl), g_law := PySem.W.mg_of X Gm a38,
    t_MOST_ROOMS := t9, c_MOST_ROOMS := PySem.W.mg_of X Gm a9,
    t_MOST_COUNTED := t12, c_MOST_COUNTED := PySem.W.mg_of X Gm a12,
    t_MOST_LISTED := t13, c_MOST_LISTED := PySem.W.mg_of X Gm a13,
    z_abs := PySem.W.mg_none_of X Gm z_abs,
    z_all := PySem.W.mg_none_of X Gm z_all,
    z_bool := PySem.W.mg_none_of X Gm z_bool,
    z_enumerate := PySem.W.mg_none_of X Gm z_enumerate,
    z_int := PySem.W.mg_none_of X Gm z_int,
    z_isinstance := PySem.W.mg_none_of X Gm z_isinstance,
    z_len := PySem.W.mg_none_of X Gm z_len,
    z_list := PySem.W.mg_none_of X Gm z_list,
    z_max := PySem.W.mg_none_of X Gm z_max,
    z_min := PySem.W.mg_none_of X Gm z_min,
    z_range := PySem.W.mg_none_of X Gm z_range,
    z_set := PySem.W.mg_none_of X Gm z_set,
    z_sorted := PySem.W.mg_none_of X Gm z_sorted,
    z_str := PySem.W.mg_none_of X Gm z_str,
    z_tuple := PySem.W.mg_none_of X Gm z_tuple,
    p_permutations := PySem.W.mg_of X Gm p_permutations,
    a_FloorError := C2, g_FloorError := PySem.W.mg_of X Gm g2,
    q_FloorError := q2, k_FloorError := k2, s_FloorError := s2, t_FloorError := t2,
    a_NoOrder := C3, g_NoOrder := PySem.W.mg_of X Gm g3,
    q_NoOrder := q3, k_NoOrder := k3, s_NoOrder := s3, t_NoOrder := t3,
    a_NoNumber := C4, g_NoNumber := PySem.W.mg_of X Gm g4,
    q_NoNumber := q4, k_NoNumber := k4, s_NoNumber := s4, t_NoNumber := t4,
    a_NoCount := C5, g_NoCount := PySem.W.mg_of X Gm g5,
    q_NoCount := q5, k_NoCount := k5, s_NoCount := s5, t_NoCount := t5,
    a_TooMany := C6, g_TooMany := PySem.W.mg_of X Gm g6,
    o_TooMany := ⟨⟨_, _, _, _, _, _, _, _, _, _, _, _, _, _, _, x6, rfl⟩, sa6, s6, t6, k6⟩,
    i_TooMany := I6, di_TooMany := _, I_TooMany := fun_mk (st := iniS 6 0) l6 c6 ki6, bI_TooMany := (fun_mk (st := iniS 6 0) l6 c6 ki6).binds (ps := ["self", "most"]) (fun _ _ _ _ _ _ us hl => match us, hl with | [_, _], _ => rfl),
    iC_TooMany := fi6, tI_TooMany := ti6, n_TooMany := nb6, x_TooMany := ⟨ga6, gg6, s6, hd6⟩,
    a_BadOrder := C7, g_BadOrder := PySem.W.mg_of X Gm g7,
    o_BadOrder := ⟨⟨_, _, _, _, _, _, _, _, _, _, _, _, _, _, _, x7, rfl⟩, sa7, s7, t7, k7⟩,
    i_BadOrder := I7, di_BadOrder := _, I_BadOrder := fun_mk (st := iniS 7 0) l7 c7 ki7, bI_BadOrder := (fun_mk (st := iniS 7 0) l7 c7 ki7).binds (ps := ["self", "bar"]) (fun _ _ _ _ _ _ us hl => match us, hl with | [_, _], _ => rfl),
    iC_BadOrder := fi7, tI_BadOrder := ti7, n_BadOrder := nb7, x_BadOrder := ⟨ga7, gg7, s7, hd7⟩,
    e_FloorError_FloorError := exm_pair s2 ic2 t2 e2_2,
    e_NoOrder_FloorError := exm_pair s2 ic2 t2 e3_2,
    e_NoNumber_FloorError := exm_pair s2 ic2 t2 e4_2,
    e_NoCount_FloorError := exm_pair s2 ic2 t2 e5_2,
    e_TooMany_FloorError := exm_pair s2 ic2 t2 e6_2,
    e_BadOrder_FloorError := exm_pair s2 ic2 t2 e7_2,
    e_FloorError_NoCount := exm_pair s5 ic5 t5 e2_5,
    e_NoOrder_NoCount := exm_pair s5 ic5 t5 e3_5,
    e_NoNumber_NoCount := exm_pair s5 ic5 t5 e4_5,
    e_NoCount_NoCount := exm_pair s5 ic5 t5 e5_5,
    e_TooMany_NoCount := exm_pair s5 ic5 t5 e6_5,
    e_BadOrder_NoCount := exm_pair s5 ic5 t5 e7_5,
    e_FloorError_NoNumber := exm_pair s4 ic4 t4 e2_4,
    e_NoOrder_NoNumber := exm_pair s4 ic4 t4 e3_4,
    e_NoNumber_NoNumber := exm_pair s4 ic4 t4 e4_4,
    e_NoCount_NoNumber := exm_pair s4 ic4 t4 e5_4,
    e_TooMany_NoNumber := exm_pair s4 ic4 t4 e6_4,
    e_BadOrder_NoNumber := exm_pair s4 ic4 t4 e7_4,
    e_FloorError_TooMany := exm_pair s6 ic6 t6 e2_6,
    e_NoOrder_TooMany := exm_pair s6 ic6 t6 e3_6,
    e_NoNumber_TooMany := exm_pair s6 ic6 t6 e4_6,
    e_NoCount_TooMany := exm_pair s6 ic6 t6 e5_6,
    e_TooMany_TooMany := exm_pair s6 ic6 t6 e6_6,
    e_BadOrder_TooMany := exm_pair s6 ic6 t6 e7_6 }
  exact ⟨PySem.W.fnOf "law" "law" (defArgs (topS 38)) (defBody (topS 38)) (defScope (topS 38)) .none kV38 dc38 pm38 an38 cd38 ct38, fun s v => .of_eq rfl, fun base _ _ => FnOk.imp (ok_law (P := P) (w := w) (base := base) g) fun vs H Q E q => spT_of (fun ns hl => law_true ns) vs H Q E q⟩
end DLP
end
open PySem PySem.W PyProof.Rows
set_option maxRecDepth 100000 in
set_option maxHeartbeats 0 in
theorem PySem.Challenge.cw_whotouches_k67_orders_listed_and_numbere_holds : PySem.Challenge.rw_whotouches_k67_orders_listed_and_numbere.Holds := by
  w_on; o_law; k_head; (case hw => w_witness2)
  k_fill
  refine L2.walk_of (l := PySem.Challenge.rw_whotouches_k67_orders_listed_and_numbere) (n := 63) (k := 14) (x := "script") (CX := fun w => L2.CX PySem.Challenge.pw_whotouches_k67_orders_listed_and_numbere w) (sp := fun w => DL.spT _) rfl (by decide) rfl ⟨rfl, by decide, by decide⟩ (fun w h Y => PySem.W.kIn_of Y) ?F (fun _ _ a ns hl _ hS => ⟨a, ns, rfl, hS, hl, fun _ => rfl⟩) (fun w H s e s' h => DL.cx_no w H s e s' h)
  case F =>
    intro w mg fa h KX Gm hmg
    refine' DLP.all_mk KX Gm hmg ?a10 ?l10 ?c10 ?k10 ?a14 ?l14 ?c14 ?k14 ?a15 ?l15 ?c15 ?k15 ?a16 ?l16 ?c16 ?k16 ?a17 ?l17 ?c17 ?k17 ?a18 ?l18 ?c18 ?k18 ?a19 ?l19 ?c19 ?k19 ?a20 ?l20 ?c20 ?k20 ?a21 ?l21 ?c21 ?k21 ?a22 ?l22 ?c22 ?k22 ?a23 ?l23 ?c23 ?k23 ?a25 ?l25 ?c25 ?k25 ?a27 ?l27 ?c27 ?k27 ?a28 ?l28 ?c28 ?k28 ?a29 ?l29 ?c29 ?k29 ?a30 ?l30 ?c30 ?k30 ?a31 ?l31 ?c31 ?k31 ?a32 ?l32 ?c32 ?k32 ?a33 ?l33 ?c33 ?k33 ?a34 ?l34 ?c34 ?k34 ?a35 ?l35 ?c35 ?k35 ?a36 ?l36 ?c36 ?k36 ?a37 ?l37 ?c37 ?k37 ?a38 ?l38 ?c38 ?k38 ?a9 ?a12 ?a13 ?z_abs ?z_all ?z_bool ?z_enumerate ?z_int ?z_isinstance ?z_len ?z_list ?z_max ?z_min ?z_range ?z_set ?z_sorted ?z_str ?z_tuple ?p_permutations ?g2 ?s2 ?t2 ?k2 ?q2 ?g3 ?s3 ?t3 ?k3 ?q3 ?g4 ?s4 ?t4 ?k4 ?q4 ?g5 ?s5 ?t5 ?k5 ?q5 ?g6 ?s6 ?t6 ?k6 ?x6 ?sa6 ?ga6 ?gg6 ?nb6 ?hd6 ?fi6 ?ti6 ?l6 ?c6 ?ki6 ?g7 ?s7 ?t7 ?k7 ?x7 ?sa7 ?ga7 ?gg7 ?nb7 ?hd7 ?fi7 ?ti7 ?l7 ?c7 ?ki7 ?ic2 ?e2_2 ?e3_2 ?e4_2 ?e5_2 ?e6_2 ?e7_2 ?ic5 ?e2_5 ?e3_5 ?e4_5 ?e5_5 ?e6_5 ?e7_5 ?ic4 ?e2_4 ?e3_4 ?e4_4 ?e5_4 ?e6_4 ?e7_4 ?ic6 ?e2_6 ?e3_6 ?e4_6 ?e5_6 ?e6_6 ?e7_6
    (case a10 => k_is)
    (case l10 => k_is)
    (case c10 => k_is)
    (case k10 => k_is)
    (case a14 => k_is)
    (case l14 => k_is)
    (case c14 => k_is)
    (case k14 => k_is)
    (case a15 => k_is)
    (case l15 => k_is)
    (case c15 => k_is)
    (case k15 => k_is)
    (case a16 => k_is)
    (case l16 => k_is)
    (case c16 => k_is)
    (case k16 => k_is)
    (case a17 => k_is)
    (case l17 => k_is)
    (case c17 => k_is)
    (case k17 => k_is)
    (case a18 => k_is)
    (case l18 => k_is)
    (case c18 => k_is)
    (case k18 => k_is)
    (case a19 => k_is)
    (case l19 => k_is)
    (case c19 => k_is)
    (case k19 => k_is)
    (case a20 => k_is)
    (case l20 => k_is)
    (case c20 => k_is)
    (case k20 => k_is)
    (case a21 => k_is)
    (case l21 => k_is)
    (case c21 => k_is)
    (case k21 => k_is)
    (case a22 => k_is)
    (case l22 => k_is)
    (case c22 => k_is)
    (case k22 => k_is)
    (case a23 => k_is)
    (case l23 => k_is)
    (case c23 => k_is)
    (case k23 => k_is)
    (case a25 => k_is)
    (case l25 => k_is)
    (case c25 => k_is)
    (case k25 => k_is)
    (case a27 => k_is)
    (case l27 => k_is)
    (case c27 => k_is)
    (case k27 => k_is)
    (case a28 => k_is)
    (case l28 => k_is)
    (case c28 => k_is)
    (case k28 => k_is)
    (case a29 => k_is)
    (case l29 => k_is)
    (case c29 => k_is)
    (case k29 => k_is)
    (case a30 => k_is)
    (case l30 => k_is)
    (case c30 => k_is)
    (case k30 => k_is)
    (case a31 => k_is)
    (case l31 => k_is)
    (case c31 => k_is)
    (case k31 => k_is)
    (case a32 => k_is)
    (case l32 => k_is)
    (case c32 => k_is)
    (case k32 => k_is)
    (case a33 => k_is)
    (case l33 => k_is)
    (case c33 => k_is)
    (case k33 => k_is)
    (case a34 => k_is)
    (case l34 => k_is)
    (case c34 => k_is)
    (case k34 => k_is)
    (case a35 => k_is)
    (case l35 => k_is)
    (case c35 => k_is)
    (case k35 => k_is)
    (case a36 => k_is)
    (case l36 => k_is)
    (case c36 => k_is)
    (case k36 => k_is)
    (case a37 => k_is)
    (case l37 => k_is)
    (case c37 => k_is)
    (case k37 => k_is)
    (case a38 => k_is)
    (case l38 => k_is)
    (case c38 => k_is)
    (case k38 => k_is)
    (case a9 => k_is)
    (case a12 => k_is)
    (case a13 => k_is)
    (case z_abs => k_is)
    (case z_all => k_is)
    (case z_bool => k_is)
    (case z_enumerate => k_is)
    (case z_int => k_is)
    (case z_isinstance => k_is)
    (case z_len => k_is)
    (case z_list => k_is)
    (case z_max => k_is)
    (case z_min => k_is)
    (case z_range => k_is)
    (case z_set => k_is)
    (case z_sorted => k_is)
    (case z_str => k_is)
    (case z_tuple => k_is)
    (case p_permutations => k_is)
    (case g2 => k_is)
    (case s2 => k_is)
    (case t2 => k_is)
    (case k2 => k_is)
    (case q2 => k_exc)
    (case g3 => k_is)
    (case s3 => k_is)
    (case t3 => k_is)
    (case k3 => k_is)
    (case q3 => k_exc)
    (case g4 => k_is)
    (case s4 => k_is)
    (case t4 => k_is)
    (case k4 => k_is)
    (case q4 => k_exc)
    (case g5 => k_is)
    (case s5 => k_is)
    (case t5 => k_is)
    (case k5 => k_is)
    (case q5 => k_exc)
    (case g6 => k_is)
    (case s6 => k_is)
    (case t6 => k_is)
    (case k6 => k_is)
    (case x6 => k_is)
    (case sa6 => k_is)
    (case ga6 => k_is)
    (case gg6 => k_is)
    (case nb6 => k_is)
    (case hd6 => k_is)
    (case fi6 => k_is)
    (case ti6 => k_is)
    (case l6 => k_is)
    (case c6 => k_is)
    (case ki6 => k_is)
    (case g7 => k_is)
    (case s7 => k_is)
    (case t7 => k_is)
    (case k7 => k_is)
    (case x7 => k_is)
    (case sa7 => k_is)
    (case ga7 => k_is)
    (case gg7 => k_is)
    (case nb7 => k_is)
    (case hd7 => k_is)
    (case fi7 => k_is)
    (case ti7 => k_is)
    (case l7 => k_is)
    (case c7 => k_is)
    (case ki7 => k_is)
    (case ic2 => k_is)
    (case e2_2 => first | k_is | rfl)
    (case e3_2 => first | k_is | rfl)
    (case e4_2 => first | k_is | rfl)
    (case e5_2 => first | k_is | rfl)
    (case e6_2 => first | k_is | rfl)
    (case e7_2 => first | k_is | rfl)
    (case ic5 => k_is)
    (case e2_5 => first | k_is | rfl)
    (case e3_5 => first | k_is | rfl)
    (case e4_5 => first | k_is | rfl)
    (case e5_5 => first | k_is | rfl)
    (case e6_5 => first | k_is | rfl)
    (case e7_5 => first | k_is | rfl)
    (case ic4 => k_is)
    (case e2_4 => first | k_is | rfl)
    (case e3_4 => first | k_is | rfl)
    (case e4_4 => first | k_is | rfl)
    (case e5_4 => first | k_is | rfl)
    (case e6_4 => first | k_is | rfl)
    (case e7_4 => first | k_is | rfl)
    (case ic6 => k_is)
    (case e2_6 => first | k_is | rfl)
    (case e3_6 => first | k_is | rfl)
    (case e4_6 => first | k_is | rfl)
    (case e5_6 => first | k_is | rfl)
    (case e6_6 => first | k_is | rfl)
    (case e7_6 => first | k_is | rfl)

