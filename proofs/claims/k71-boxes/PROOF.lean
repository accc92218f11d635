import PyProof.Rows.All
import Wide.All
import OpenK.AllK
import Wide.FinOn
import HandS.ForMost
import HandS.Exc
import HandS.ExcOwn
import HandS.ExcInit
import HandS.TryMany
import HandS.IsInst
import HandS.Wide
import HandS.Small
import HandS.RaiseMore
import HandS.Conv
import HandS.Deep
import KE.SortData
import HandS.DictComp
import HandS.DictTup
import KE.GoesEnum
import HandS.TupAny
import HandS.NoneIn
import HandS.Star
import HandS.ExcField
import HandS.WordsExc
import HandS.Style
import KE.DataEq
import PyProof.Rows.SortShell
import HandS.SetFor
import HandS.Strs
import PySem.Challenge.RW_whotouches_k71_whole_least_boxes_of_tree
set_option Elab.async false
set_option linter.all false
set_option maxRecDepth 100000
set_option maxHeartbeats 4000000
/-! The data layer: programs read as plain functions of data. -/
noncomputable section
namespace DL
open PySem PySem.Spec PyProof.Rows L2

abbrev St := L2.St
abbrev D := PyData
/-- what a slot holds: data that never changes, a list of our own, a list that was lent -/
inductive DV where
  | imm (d : D) | own (xs : List D) | lent (xs : List D) | exc | dct (kvs : List (D × D))
abbrev SD := List (Option DV)
/-- a slot read, a slot set: by the recursors alone (the kernel walks them in few steps) -/
def getS (s : SD) : Nat → Option (Option DV) := List.rec (motive := fun _ => Nat → Option (Option DV)) (fun _ => none) (fun x _ ih n => Nat.rec (motive := fun _ => Option (Option DV)) (some x) (fun m _ => ih m) n) s
def setS (s : SD) (i : Nat) (v : Option DV) : SD := List.rec (motive := fun _ => Nat → SD) (fun _ => []) (fun x r ih n => Nat.rec (motive := fun _ => SD) (v :: r) (fun m _ => x :: ih m) n) s i
theorem getS_eq : ∀ (s : SD) (i : Nat), getS s i = s[i]?
  | [], _ => rfl
  | _ :: _, 0 => rfl
  | _ :: r, i + 1 => getS_eq r i
theorem setS_eq (v : Option DV) : ∀ (s : SD) (i : Nat), setS s i v = s.set i v
  | [], _ => rfl
  | _ :: _, 0 => rfl
  | x :: r, i + 1 => congrArg (x :: ·) (setS_eq v r i)
/-- what an expression hands on -/
inductive RV where
  | imm (d : D) | tmp (xs : List D) | slot (i : Nat) | tmpd (kvs : List (D × D))
structure DExc where
  cls : Nat
  arg : Option D
inductive R (α : Type) where
  | ok (a : α) (s : SD) | ex (e : DExc) (s : SD) | no
inductive RS where
  | nx (s : SD) | bk (s : SD) | ct (s : SD) | rt (r : RV) (s : SD) | ex (e : DExc) (s : SD) | no
inductive AV where
  | imm (d : D) | lent (xs : List D)
inductive RF where
  | ret (r : RV) (as : List AV) | exc (e : DExc) (as : List AV) | no
def R.bind {α β : Type} (r : R α) (g : α → SD → R β) : R β := match r with
  | .ok a s => g a s
  | .ex e s => .ex e s
  | .no => .no

/-! ### data in a heap -/
def keyD : Key → D
  | .inl i => .int i
  | .inr x => .str x
mutual
inductive Dp (K : PySem.W.Frag) (B : Hp) : V → D → Prop
  | non : Dp K B .non .none
  | bl (b : Bool) : Dp K B (.bl b) (.bool b)
  | int (i : Int) : Dp K B (.int i) (.int i)
  | str (x : Str) : Dp K B (.str x) (.str x)
  | lst {a : Addr} {xs : List V} {ds : List D} : SqL K B a xs → DpAll K B xs ds → Dp K B (.ref a) (.list ds)
  | tup {a : Addr} {xs : List V} {ds : List D} : B a = some (.tup xs) → DpAll K B xs ds → Dp K B (.ref a) (.tuple ds)
  | dic {a : Addr} {o : Obj} {u : HO} {ks : List (D × D)} : B a = some (.frz o u) → DcOk K B u ks → Dp K B (.ref a) (.dict ks)
inductive DpAll (K : PySem.W.Frag) (B : Hp) : List V → List D → Prop
  | nil : DpAll K B [] []
  | cons {v : V} {vs : List V} {d : D} {ds : List D} : Dp K B v d → DpAll K B vs ds → DpAll K B (v :: vs) (d :: ds)
/-- what a dict holds: keys that are ints and texts, or tuples of them -/
inductive DcOk (K : PySem.W.Frag) (B : Hp) : HO → List (D × D) → Prop
  | k {kvs : List (Key × V)} {ks : List (D × D)} : DkAll K B kvs ks → DcOk K B (.dK kvs) [(.none, .dict ks)]
  | t {kvs : List (List Key × V)} {ks : List (D × D)} : DtAll K B kvs ks → DcOk K B (.dT kvs) ks
inductive DkAll (K : PySem.W.Frag) (B : Hp) : List (Key × V) → List (D × D) → Prop
  | nil : DkAll K B [] []
  | cons {k : Key} {v : V} {kvs : List (Key × V)} {d : D} {ks : List (D × D)} : Dp K B v d → DkAll K B kvs ks → DkAll K B ((k, v) :: kvs) ((keyD k, d) :: ks)
inductive DtAll (K : PySem.W.Frag) (B : Hp) : List (List Key × V) → List (D × D) → Prop
  | nil : DtAll K B [] []
  | cons {k : List Key} {v : V} {kvs : List (List Key × V)} {d : D} {ks : List (D × D)} : Dp K B v d → DtAll K B kvs ks → DtAll K B ((k, v) :: kvs) ((.tuple (k.map keyD), d) :: ks)
end
theorem rd_same {B B' : Hp} {a : Addr} {u : HO} (e : Same B B') (h : Rd B a u) : Rd B' a u := by
  rcases h with h | ⟨o, h⟩
  · exact .inl (e _ _ h)
  · exact .inr ⟨o, e _ _ h⟩
theorem sqL_same {K : PySem.W.Frag} {B B' : Hp} {a : Addr} {xs : List V} (e : Same B B') (h : SqL K B a xs) : SqL K B' a xs := by
  rcases h with h | h
  · exact .inl (rd_same e h)
  · exact .inr h
mutual
def noD : D → Bool
  | .list ds => noDs ds
  | .tuple ds => noDs ds
  | .dict _ => false
  | _ => true
def noDs : List D → Bool
  | [] => true
  | d :: ds => noD d && noDs ds
end
mutual
theorem dp_l2 {K : PySem.W.Frag} {B : Hp} : ∀ (d : D) (v : V), noD d = true → Dp K B v d → L2.Dp K B v d
  | .none, _, _, h => by cases h; exact .non
  | .bool b, _, _, h => by cases h; exact .bl b
  | .int i, _, _, h => by cases h; exact .int i
  | .str x, _, _, h => by cases h; exact .str x
  | .list ds, _, n, h => by
    cases h with
    | lst hs ha => exact .lst hs (dps_l2 ds _ (by simpa [noD] using n) ha)
  | .tuple ds, _, n, h => by
    cases h with
    | tup hs ha => exact .tup (SqT.of hs) (dps_l2 ds _ (by simpa [noD] using n) ha)
  | .dict _, _, n, h => by simp [noD] at n
theorem dps_l2 {K : PySem.W.Frag} {B : Hp} : ∀ (ds : List D) (vs : List V), noDs ds = true → DpAll K B vs ds → L2.DpAll K B vs ds
  | [], _, _, h => by cases h; exact .nil
  | d :: ds, _, n, h => by
    cases h with
    | cons h1 h2 =>
      rw [noDs, Bool.and_eq_true] at n
      exact .cons (dp_l2 d _ n.1 h1) (dps_l2 ds _ n.2 h2)
end
mutual
theorem lay_noD : ∀ d : D, d.canLay0 = true → noD d = true
  | .none, _ => by simp [noD]
  | .bool _, _ => by simp [noD]
  | .int _, _ => by simp [noD]
  | .str _, _ => by simp [noD]
  | .list ds, h => by
    rw [noD]
    exact lays_noD ds (by simpa [PyData.canLay0] using h)
  | .tuple ds, h => by
    rw [noD]
    exact lays_noD ds (by simpa [PyData.canLay0] using h)
  | .dict _, h => by simp [PyData.canLay0] at h
theorem lays_noD : ∀ ds : List D, PyData.canLayAll0 ds = true → noDs ds = true
  | [], _ => by simp [noDs]
  | d :: ds, h => by
    simp only [PyData.canLayAll0, Bool.and_eq_true] at h
    rw [noDs, lay_noD d h.1, lays_noD ds h.2]
    rfl
end
theorem shaped_noD {d : D} (h : SeqAt.shaped d = true) : noD d = true := by
  unfold SeqAt.shaped at h
  rw [Bool.and_eq_true] at h
  exact lay_noD d h.1
mutual
theorem alike_noD : ∀ d : D, PySem.W.alike d d = true → noD d = true
  | .none, _ => by simp [noD]
  | .bool _, _ => by simp [noD]
  | .int _, _ => by simp [noD]
  | .str _, _ => by simp [noD]
  | .list ds, h => by
    rw [noD]
    exact alikes_noD ds (by simpa [PySem.W.alike] using h)
  | .tuple ds, h => by
    rw [noD]
    exact alikes_noD ds (by simpa [PySem.W.alike] using h)
  | .dict _, h => by simp [PySem.W.alike] at h
theorem alikes_noD : ∀ ds : List D, PySem.W.alikeAll ds ds = true → noDs ds = true
  | [], _ => by simp [noDs]
  | d :: ds, h => by
    simp only [PySem.W.alikeAll, Bool.and_eq_true] at h
    rw [noDs, alike_noD d h.1, alikes_noD ds h.2]
    rfl
end
theorem sqT_same {K : PySem.W.Frag} {B B' : Hp} {a : Addr} {xs : List V} (e : Same B B') (h : SqT K B a xs) : SqT K B' a xs := by
  rcases h with (h | ⟨o, h⟩) | h
  · exact .inl (.inl (e _ _ h))
  · exact .inl (.inr ⟨o, e _ _ h⟩)
  · exact .inr h
mutual
theorem dp_same' {K : PySem.W.Frag} {B B' : Hp} (e : Same B B') : ∀ {v : V} {d : D}, Dp K B v d → Dp K B' v d
  | _, _, .non => .non
  | _, _, .bl b => .bl b
  | _, _, .int i => .int i
  | _, _, .str x => .str x
  | _, _, .lst hs ha => .lst (sqL_same e hs) (dps_same' e ha)
  | _, _, .tup hs ha => .tup (e _ _ hs) (dps_same' e ha)
  | _, _, .dic hb hc => .dic (e _ _ hb) (dcs_same' e hc)
theorem dps_same' {K : PySem.W.Frag} {B B' : Hp} (e : Same B B') : ∀ {vs : List V} {ds : List D}, DpAll K B vs ds → DpAll K B' vs ds
  | _, _, .nil => .nil
  | _, _, .cons h t => .cons (dp_same' e h) (dps_same' e t)
theorem dcs_same' {K : PySem.W.Frag} {B B' : Hp} (e : Same B B') : ∀ {u : HO} {ks : List (D × D)}, DcOk K B u ks → DcOk K B' u ks
  | _, _, .k h => .k (dks_same' e h)
  | _, _, .t h => .t (dts_same' e h)
theorem dks_same' {K : PySem.W.Frag} {B B' : Hp} (e : Same B B') : ∀ {kvs : List (Key × V)} {ks : List (D × D)}, DkAll K B kvs ks → DkAll K B' kvs ks
  | _, _, .nil => .nil
  | _, _, .cons h t => .cons (dp_same' e h) (dks_same' e t)
theorem dts_same' {K : PySem.W.Frag} {B B' : Hp} (e : Same B B') : ∀ {kvs : List (List Key × V)} {ks : List (D × D)}, DtAll K B kvs ks → DtAll K B' kvs ks
  | _, _, .nil => .nil
  | _, _, .cons h t => .cons (dp_same' e h) (dts_same' e t)
end
theorem dp_same {K : PySem.W.Frag} {B B' : Hp} (e : Same B B') (d : D) (v : V) (h : Dp K B v d) : Dp K B' v d := dp_same' e h
theorem dps_same {K : PySem.W.Frag} {B B' : Hp} (e : Same B B') (ds : List D) (vs : List V) (h : DpAll K B vs ds) : DpAll K B' vs ds := dps_same' e h
theorem dcs_same {K : PySem.W.Frag} {B B' : Hp} (e : Same B B') (ks : List (D × D)) (u : HO) (h : DcOk K B u ks) : DcOk K B' u ks := dcs_same' e h
theorem dps_len {K : PySem.W.Frag} {B : Hp} : ∀ {vs : List V} {ds : List D}, DpAll K B vs ds → vs.length = ds.length
  | _, _, .nil => rfl
  | _, _, .cons _ t => congrArg (· + 1) (dps_len t)
theorem dps_app {K : PySem.W.Frag} {B : Hp} : ∀ {vs ws : List V} {ds es : List D}, DpAll K B vs ds → DpAll K B ws es → DpAll K B (vs ++ ws) (ds ++ es)
  | _, _, _, _, .nil, h => h
  | _, _, _, _, .cons a t, h => .cons a (dps_app t h)
theorem dps_get {K : PySem.W.Frag} {B : Hp} : ∀ {vs : List V} {ds : List D} {i : Nat} {d : D}, DpAll K B vs ds → ds[i]? = some d → ∃ v, vs[i]? = some v ∧ Dp K B v d
  | _, _, 0, _, .cons a _, h => by
    have e := Option.some.inj h
    subst e
    exact ⟨_, rfl, a⟩
  | _, _, i + 1, d, .cons _ t, h => dps_get (i := i) t h
  | _, _, i, _, .nil, h => by simp at h
theorem dps_set {K : PySem.W.Frag} {B : Hp} {v : V} {d : D} (r : Dp K B v d) : ∀ {vs : List V} {ds : List D} (i : Nat), DpAll K B vs ds → DpAll K B (vs.set i v) (ds.set i d)
  | _, _, _, .nil => .nil
  | _, _, 0, .cons _ t => .cons r t
  | _, _, i + 1, .cons q t => .cons q (dps_set r i t)
theorem dps_take {K : PySem.W.Frag} {B : Hp} : ∀ {vs : List V} {ds : List D} (n : Nat), DpAll K B vs ds → DpAll K B (vs.take n) (ds.take n)
  | _, _, 0, _ => .nil
  | _, _, _ + 1, .nil => .nil
  | _, _, n + 1, .cons r t => .cons r (dps_take n t)
theorem dps_drop {K : PySem.W.Frag} {B : Hp} : ∀ {vs : List V} {ds : List D} (n : Nat), DpAll K B vs ds → DpAll K B (vs.drop n) (ds.drop n)
  | _, _, 0, r => r
  | _, _, _ + 1, .nil => .nil
  | _, _, n + 1, .cons _ t => dps_drop n t
theorem same_upd {H : Hp} {p : Addr} {o : HO} (h : H p = none) : Same H (upd H p o) := fun b x e => by
  rw [upd_ne (ne_of_none e h)]
  exact e

/-! ### a def's frame: what stood at its entry, the lists that were lent -/
structure Pr where
  K : PySem.W.Frag
  Z : Hp
  B0 : Hp
  L : Nat → Option Addr
  C : Nat → Option Addr
  fld : Nat → Str
  xa : Option Addr
def SlotOk (p : Pr) (B H : Hp) (i : Nat) (v : Option V) : Option DV → Prop
  | none => p.L i = none
  | some (.imm d) => p.L i = none ∧ ∃ x, v = some x ∧ Dp p.K B x d
  | some (.own xs) => p.L i = none ∧ ∃ a vs, v = some (.ref a) ∧ p.Z a = none ∧ H a = some (.lst vs) ∧ B a = none ∧ DpAll p.K B vs xs
  | some (.lent xs) => ∃ a vs, p.L i = some a ∧ v = some (.ref a) ∧ H a = some (.lst vs) ∧ B a = none ∧ DpAll p.K B vs xs
  | some .exc => p.L i = none ∧ ∃ a, p.xa = some a ∧ v = some (.ref a)
  | some (.dct ks) => p.L i = none ∧ ∃ a u, v = some (.ref a) ∧ p.Z a = none ∧ H a = some u ∧ B a = none ∧ DcOk p.K B u ks
def DV.mut : DV → Bool
  | .own _ => true
  | .lent _ => true
  | .dct _ => true
  | _ => false
def Owns (σ : St) (s : SD) (i : Nat) (a : Addr) : Prop := σ[i]? = some (some (.ref a)) ∧ ∃ x : DV, s[i]? = some (some x) ∧ x.mut = true
/-- what may change -/
def Mutb (o : HO) : Prop := ∀ xs, o ≠ .tup xs
theorem DcOk.mutb {K : PySem.W.Frag} {B : Hp} {u : HO} {ks : List (D × D)} (h : DcOk K B u ks) : Mutb u := by
  cases h <;> exact fun xs z => nomatch z
theorem mutb_lst {vs : List V} : Mutb (.lst vs) := fun xs z => nomatch z
structure StOk (p : Pr) (B H : Hp) (σ : St) (s : SD) : Prop where
  len : σ.length = s.length
  slot : ∀ (i : Nat) dv v, s[i]? = some dv → σ[i]? = some v → SlotOk p B H i v dv
  sep : ∀ (i j : Nat) a, Owns σ s i a → Owns σ s j a → i = j
  b0 : Same p.B0 B
  bh : Same B H
  fr : ∀ b o, p.Z b = some o → (∀ i, p.L i ≠ some b) → H b = some o
  dom : ∀ b, H b = none → p.Z b = none
  new : ∀ b, p.Z b ≠ none → p.B0 b = none → B b = none
  tb : ∀ b xs, H b = some (.tup xs) → B b = some (.tup xs)
theorem StOk.owned {p : Pr} {B H : Hp} {σ : St} {s : SD} (h : StOk p B H σ s) {i : Nat} {a : Addr} (o : Owns σ s i a) : ∃ u, H a = some u ∧ B a = none ∧ Mutb u ∧ ∀ fs, u ≠ .xd fs := by
  obtain ⟨e, x, q, m⟩ := o
  have z := h.slot i _ _ q e
  match x, m, z with
  | .own xs, _, ⟨_, a', vs, e', _, h1, h2, h3⟩ =>
    have ea : a = a' := by simpa using e'
    subst ea
    exact ⟨_, h1, h2, mutb_lst, fun _ z => nomatch z⟩
  | .lent xs, _, ⟨a', vs, _, e', h1, h2, h3⟩ =>
    have ea : a = a' := by simpa using e'
    subst ea
    exact ⟨_, h1, h2, mutb_lst, fun _ z => nomatch z⟩
  | .dct ks, _, ⟨_, a', u, e', _, h1, h2, h3⟩ =>
    have ea : a = a' := by simpa using e'
    subst ea
    exact ⟨_, h1, h2, h3.mutb, by cases h3 <;> exact fun _ z => nomatch z⟩

/-- from one state to a later one within an expression -/
structure Ext (σ : St) (s s' : SD) (B H B' H' : Hp) : Prop where
  bb : Same B B'
  hh : ∀ b o, H b = some o → (∀ i, ¬ Owns σ s i b) → H' b = some o
  dom : ∀ b, H' b = none → H b = none
  new : ∀ b, H b ≠ none → B b = none → B' b = none
  own : ∀ i a, Owns σ s' i a → Owns σ s i a
theorem Ext.refl {σ : St} {s : SD} {B H : Hp} : Ext σ s s B H B H := ⟨Same.refl _, fun _ _ h _ => h, fun _ h => h, fun _ _ h => h, fun _ _ h => h⟩
theorem Ext.trans {σ : St} {s s1 s2 : SD} {B H B1 H1 B2 H2 : Hp} (a : Ext σ s s1 B H B1 H1) (b : Ext σ s1 s2 B1 H1 B2 H2) : Ext σ s s2 B H B2 H2 where
  bb := a.bb.trans b.bb
  hh := fun c o h n => b.hh c o (a.hh c o h n) fun i q => n i (a.own i c q)
  dom := fun c h => a.dom c (b.dom c h)
  new := fun c h n => b.new c (fun z => h (a.dom c z)) (a.new c h n)
  own := fun i c h => a.own i c (b.own i c h)

/-- an exception as it lies -/
def ExAt (K : PySem.W.Frag) (C : Nat → Option Addr) (fld : Nat → Str) (Z B H : Hp) (e : DExc) (cls : Value) (d : Option Addr) : Prop :=
  ∃ c, C e.cls = some c ∧ cls = .ref c ∧ match e.arg with
    | none => d = none
    | some x => ∃ (a : Addr) (v : V), d = some a ∧ Z a = none ∧ B a = none ∧ H a = some (.xd [(fld e.cls, v)]) ∧ Dp K B v x
def ExOk (p : Pr) (B H : Hp) (e : DExc) (cls : Value) (d : Option Addr) : Prop := ExAt p.K p.C p.fld p.Z B H e cls d

def run {α : Type} (p : Pr) (W : WX) (σ : St) (s : SD) (B H : Hp) (r : R α) (k : α → SD → Hp → Hp → Prop) : Prop := match r with
  | .ok a s' => ∀ B' H', Ext σ s s' B H B' H' → StOk p B' H' σ s' → k a s' B' H'
  | .ex e s' => ∀ B' H' cls d, Ext σ s s' B H B' H' → StOk p B' H' σ s' → ExOk p B' H' e cls d → W cls d σ H'
  | .no => False
section
variable {α β : Type} {p : Pr} {W : WX} {σ : St} {s : SD} {B H : Hp}
theorem run_mono {r : R α} {k k' : α → SD → Hp → Hp → Prop} (h : run p W σ s B H r k) (hk : ∀ a s' B' H', Ext σ s s' B H B' H' → StOk p B' H' σ s' → k a s' B' H' → k' a s' B' H') : run p W σ s B H r k' := by
  cases r with
  | ok a s' => exact fun B' H' x y => hk a s' B' H' x y (h B' H' x y)
  | ex e s' => exact h
  | no => exact h
theorem run_later {s1 : SD} {B1 H1 : Hp} {r : R α} {k : α → SD → Hp → Hp → Prop} (e : Ext σ s s1 B H B1 H1) (h : run p W σ s B H r k) : run p W σ s1 B1 H1 r k := by
  cases r with
  | ok a s' => exact fun B' H' x y => h B' H' (e.trans x) y
  | ex e' s' => exact fun B' H' cls d x y z => h B' H' cls d (e.trans x) y z
  | no => exact h
theorem run_bind {r : R α} {g : α → SD → R β} {k : β → SD → Hp → Hp → Prop} (h : run p W σ s B H (r.bind g) k) : run p W σ s B H r fun a s1 B1 H1 => run p W σ s1 B1 H1 (g a s1) k := by
  cases r with
  | ok a s' => exact fun B' H' x y => run_later x h
  | ex e s' => exact h
  | no => exact h
end

/-- a value as it was handed on; H0: the heap ahead of the expression -/
def RvOk (p : Pr) (H0 : Hp) (σ : St) (s : SD) (B H : Hp) (v : V) : RV → Prop
  | .imm d => Dp p.K B v d
  | .tmp xs => ∃ a vs, v = .ref a ∧ H0 a = none ∧ H a = some (.lst vs) ∧ B a = none ∧ DpAll p.K B vs xs ∧ ∀ i, ¬ Owns σ s i a
  | .slot i => σ[i]? = some (some v)
  | .tmpd ks => ∃ a u, v = .ref a ∧ H0 a = none ∧ H a = some u ∧ B a = none ∧ DcOk p.K B u ks ∧ ∀ i, ¬ Owns σ s i a
theorem RvOk.later {p : Pr} {H0 : Hp} {σ : St} {s s' : SD} {B H B' H' : Hp} {v : V} : ∀ {r : RV}, RvOk p H0 σ s B H v r → Ext σ s s' B H B' H' → RvOk p H0 σ s' B' H' v r
  | .imm _, h, e => dp_same e.bb _ _ h
  | .tmp _, ⟨a, vs, h1, h2, h3, h4, h5, h6⟩, e => ⟨a, vs, h1, h2, e.hh _ _ h3 h6, e.new _ (by rw [h3]; exact fun z => nomatch z) h4, dps_same e.bb _ _ h5, fun i q => h6 i (e.own i a q)⟩
  | .slot _, h, _ => h
  | .tmpd _, ⟨a, vs, h1, h2, h3, h4, h5, h6⟩, e => ⟨a, vs, h1, h2, e.hh _ _ h3 h6, e.new _ (by rw [h3]; exact fun z => nomatch z) h4, dcs_same e.bb _ _ h5, fun i q => h6 i (e.own i a q)⟩
theorem RvOk.back {p : Pr} {H0 H00 : Hp} {σ : St} {s : SD} {B H : Hp} {v : V} (d : ∀ b, H0 b = none → H00 b = none) : ∀ {r : RV}, RvOk p H0 σ s B H v r → RvOk p H00 σ s B H v r
  | .imm _, h => h
  | .tmp _, ⟨a, vs, h1, h2, h3, h4, h5, h6⟩ => ⟨a, vs, h1, d _ h2, h3, h4, h5, h6⟩
  | .slot _, h => h
  | .tmpd _, ⟨a, vs, h1, h2, h3, h4, h5, h6⟩ => ⟨a, vs, h1, d _ h2, h3, h4, h5, h6⟩

/-! ### judgements -/
abbrev FE := SD → R RV
abbrev FT := SD → R Bool
abbrev FA := SD → R (List RV)
abbrev FS := SD → RS
def tE (p : Pr) (W : WX) (f : FE) : TE := fun σ H Q => ∃ B s, StOk p B H σ s ∧ run p W σ s B H (f s) fun r s' B' H' => ∀ v, RvOk p H σ s' B' H' v r → Q v H'
def tT (p : Pr) (W : WX) (f : FT) : TT := fun σ H Q => ∃ B s, StOk p B H σ s ∧ run p W σ s B H (f s) fun b s' B' H' => Q b H'
inductive RvsOk (p : Pr) (H0 : Hp) (σ : St) (s : SD) (B H : Hp) : List V → List RV → Prop
  | nil : RvsOk p H0 σ s B H [] []
  | cons {v : V} {vs : List V} {r : RV} {rs : List RV} : RvOk p H0 σ s B H v r → RvsOk p H0 σ s B H vs rs → RvsOk p H0 σ s B H (v :: vs) (r :: rs)
def tA (p : Pr) (W : WX) (f : FA) : TA := fun σ H Q => ∃ B s, StOk p B H σ s ∧ run p W σ s B H (f s) fun rs s' B' H' => ∀ vs, RvsOk p H σ s' B' H' vs rs → Q vs H'
theorem PE.imp {X : Cx} {e : Expr} {t t' : TE} (h : PE X e t) (f : ∀ σ H Q, t' σ H Q → t σ H Q) : PE X e t' := ⟨fun pins s σ H Q I q => h.run pins s σ H Q I (f _ _ _ q)⟩
theorem PT.imp {X : Cx} {e : Expr} {t t' : TT} (h : PT X e t) (f : ∀ σ H Q, t' σ H Q → t σ H Q) : PT X e t' := ⟨fun pins s σ H Q I q => h.run pins s σ H Q I (f _ _ _ q)⟩
theorem PW.imp {X : Cx} {e : Expr} {t t' : TT} (h : PW X e t) (f : ∀ σ H Q, t' σ H Q → t σ H Q) : PW X e t' := ⟨fun w pins s σ H Q I q => h.run w pins s σ H Q I (f _ _ _ q)⟩
theorem PA.imp {X : Cx} {es : List Expr} {t t' : TA} (h : PA X es t) (f : ∀ σ H Q, t' σ H Q → t σ H Q) : PA X es t' := ⟨fun pos pins s σ H Q I q => h.run pos pins s σ H Q I (f _ _ _ q)⟩
theorem PS.imp {X : Cx} {st : Stmt} {t t' : TS} (h : PS X st t) (f : ∀ D σ H, t' D σ H → t D σ H) : PS X st t' := ⟨fun pins s σ H D I q => h.run pins s σ H D I (f _ _ _ q)⟩
theorem PSs.imp {X : Cx} {st : List Stmt} {t t' : TS} (h : PSs X st t) (f : ∀ D σ H, t' D σ H → t D σ H) : PSs X st t' := ⟨fun pins s σ H D I q => h.run pins s σ H D I (f _ _ _ q)⟩
/-- what follows -/
def sat (p : Pr) (W : WX) (B : Hp) (D : Ends) : RS → Prop
  | .nx s' => ∀ σ' B' H', Same B B' → StOk p B' H' σ' s' → D.nx σ' H'
  | .bk s' => ∀ σ' B' H', Same B B' → StOk p B' H' σ' s' → D.bk σ' H'
  | .ct s' => ∀ σ' B' H', Same B B' → StOk p B' H' σ' s' → D.ct σ' H'
  | .rt r s' => ∀ σ' B' H' v, Same B B' → StOk p B' H' σ' s' → RvOk p p.Z σ' s' B' H' v r → D.rt v H'
  | .ex e s' => ∀ σ' B' H' cls d, Same B B' → StOk p B' H' σ' s' → ExOk p B' H' e cls d → W cls d σ' H'
  | .no => False
theorem sat_later {p : Pr} {W : WX} {B B1 : Hp} {D : Ends} (e : Same B B1) : ∀ {r : RS}, sat p W B D r → sat p W B1 D r
  | .nx _, h => fun σ' B' H' x => h σ' B' H' (e.trans x)
  | .bk _, h => fun σ' B' H' x => h σ' B' H' (e.trans x)
  | .ct _, h => fun σ' B' H' x => h σ' B' H' (e.trans x)
  | .rt _ _, h => fun σ' B' H' v x => h σ' B' H' v (e.trans x)
  | .ex _ _, h => fun σ' B' H' c d x => h σ' B' H' c d (e.trans x)
  | .no, h => h
def tS (p : Pr) (W : WX) (f : FS) : TS := fun D σ H => ∃ B s, StOk p B H σ s ∧ sat p W B D (f s)
end DL
end

set_option Elab.async false
set_option linter.all false
set_option maxRecDepth 100000
set_option maxHeartbeats 4000000
noncomputable section
namespace DL
open PySem PySem.Spec PyProof.Rows L2

/-! ### states that grow -/
theorem StOk.grow {p : Pr} {B H B' H' : Hp} {σ : St} {s : SD} (ok : StOk p B H σ s) (bb : Same B B') (bh : Same B' H') (hh : Same H H') (new : ∀ b, H b ≠ none → B b = none → B' b = none) (tb : ∀ b xs, H' b = some (.tup xs) → H b = some (.tup xs) ∨ B' b = some (.tup xs)) : StOk p B' H' σ s where
  len := ok.len
  slot := fun i dv v h1 h2 => by
    have q := ok.slot i dv v h1 h2
    match dv, q with
    | none, q => exact q
    | some (.imm d), ⟨l, x, e, r⟩ => exact ⟨l, x, e, dp_same bb _ _ r⟩
    | some (.own xs), ⟨l, a, vs, e, z, h, n, r⟩ => exact ⟨l, a, vs, e, z, hh _ _ h, new a (by rw [h]; exact fun z => nomatch z) n, dps_same bb _ _ r⟩
    | some (.lent xs), ⟨a, vs, l, e, h, n, r⟩ => exact ⟨a, vs, l, e, hh _ _ h, new a (by rw [h]; exact fun z => nomatch z) n, dps_same bb _ _ r⟩
    | some .exc, q => exact q
    | some (.dct ks), ⟨l, a, u, e, z, h, n, r⟩ => exact ⟨l, a, u, e, z, hh _ _ h, new a (by rw [h]; exact fun z => nomatch z) n, dcs_same bb _ _ r⟩
  sep := ok.sep
  b0 := ok.b0.trans bb
  bh := bh
  fr := fun b o h n => hh _ _ (ok.fr b o h n)
  dom := fun b h => ok.dom b (hh.free h)
  new := fun b h n => new b (fun z => h (ok.dom b z)) (ok.new b h n)
  tb := fun b xs h => (tb b xs h).elim (fun z => bb _ _ (ok.tb b xs z)) id
theorem upd_none {H : Hp} {p b : Addr} {o : HO} (h : upd H p o b = none) : H b = none := by
  by_cases e : b = p
  · rw [e, upd_same] at h
    cases h
  · rw [upd_ne e] at h
    exact h
theorem same_upd2 {B H : Hp} {p : Addr} {o : HO} (h : Same B H) : Same (upd B p o) (upd H p o) := fun b x e => by
  by_cases q : b = p
  · subst q
    rw [upd_same] at e ⊢
    exact e
  · rw [upd_ne q] at e ⊢
    exact h b x e
theorem same_updH {B H : Hp} {p : Addr} {o : HO} (h : Same B H) (n : H p = none) : Same B (upd H p o) := h.trans (same_upd n)
theorem StOk.newB {p : Pr} {B H : Hp} {σ : St} {s : SD} {q : Addr} {o : HO} (ok : StOk p B H σ s) (n : H q = none) : StOk p (upd B q o) (upd H q o) σ s :=
  ok.grow (same_upd (ok.bh.free n)) (same_upd2 ok.bh) (same_upd n) (fun b h e => by
    rw [upd_ne (fun z => h (by rw [z]; exact n))]
    exact e) fun b xs h => by
    by_cases w : b = q
    · rw [w] at h ⊢
      rw [upd_same] at h ⊢
      exact .inr h
    · rw [upd_ne w] at h
      exact .inl h
theorem StOk.newH {p : Pr} {B H : Hp} {σ : St} {s : SD} {q : Addr} {o : HO} (ok : StOk p B H σ s) (n : H q = none) (m : Mutb o) : StOk p B (upd H q o) σ s :=
  ok.grow (Same.refl _) (same_updH ok.bh n) (same_upd n) (fun b h e => e) fun b xs h => by
    by_cases w : b = q
    · rw [w, upd_same] at h
      exact (m xs (Option.some.inj h)).elim
    · rw [upd_ne w] at h
      exact .inl h
theorem Ext.newB {B H : Hp} {σ : St} {s : SD} {q : Addr} {o : HO} (bh : Same B H) (n : H q = none) : Ext σ s s B H (upd B q o) (upd H q o) :=
  ⟨same_upd (bh.free n), fun b x h _ => same_upd n b x h, fun b h => upd_none h, fun b h e => by
    rw [upd_ne (fun z => h (by rw [z]; exact n))]
    exact e, fun _ _ h => h⟩
theorem Ext.newH {B H : Hp} {σ : St} {s : SD} {q : Addr} {o : HO} (n : H q = none) : Ext σ s s B H B (upd H q o) :=
  ⟨Same.refl _, fun b x h _ => same_upd n b x h, fun b h => upd_none h, fun _ _ e => e, fun _ _ h => h⟩
theorem StOk.notOwn {p : Pr} {B H : Hp} {σ : St} {s : SD} {q : Addr} (ok : StOk p B H σ s) (n : H q = none) (i : Nat) : ¬ Owns σ s i q := fun z => by
  obtain ⟨u, h, _⟩ := ok.owned z
  rw [n] at h
  cases h

/-! ### what is read of a value -/
def view (s : SD) : RV → Option D
  | .imm d => some d
  | .tmp xs => some (.list xs)
  | .slot i => match getS s i with
    | some (some (.own xs)) => some (.list xs)
    | some (some (.lent xs)) => some (.list xs)
    | some (some (.dct ks)) => some (.dict ks)
    | _ => none
  | .tmpd ks => some (.dict ks)
def Vw (K : PySem.W.Frag) (B H : Hp) (v : V) (d : D) : Prop := Dp K B v d ∨ (∃ a vs xs, v = .ref a ∧ d = .list xs ∧ H a = some (.lst vs) ∧ DpAll K B vs xs) ∨ ∃ a u ks, v = .ref a ∧ d = .dict ks ∧ H a = some u ∧ DcOk K B u ks
inductive VsAll (K : PySem.W.Frag) (B H : Hp) : List V → List D → Prop
  | nil : VsAll K B H [] []
  | cons {v : V} {vs : List V} {d : D} {ds : List D} : Vw K B H v d → VsAll K B H vs ds → VsAll K B H (v :: vs) (d :: ds)
theorem vw_of {p : Pr} {H0 : Hp} {σ : St} {s : SD} {B H : Hp} {v : V} {r : RV} {d : D} (h : RvOk p H0 σ s B H v r) (ok : StOk p B H σ s) (e : view s r = some d) : Vw p.K B H v d := by
  cases r with
  | imm d' =>
    cases e
    exact .inl h
  | tmp xs =>
    cases e
    obtain ⟨a, vs, h1, h2, h3, h4, h5, h6⟩ := h
    exact .inr (.inl ⟨a, vs, xs, h1, rfl, h3, h5⟩)
  | tmpd xs =>
    cases e
    obtain ⟨a, vs, h1, h2, h3, h4, h5, h6⟩ := h
    exact .inr (.inr ⟨a, vs, xs, h1, rfl, h3, h5⟩)
  | slot i =>
    have h : σ[i]? = some (some v) := h
    unfold view at e
    simp only [getS_eq] at e
    split at e
    · rename_i xs q
      cases e
      obtain ⟨_, a, vs, e', _, h1, h2, h3⟩ := ok.slot i _ _ q h
      cases e'
      exact .inr (.inl ⟨a, vs, xs, rfl, rfl, h1, h3⟩)
    · rename_i xs q
      cases e
      obtain ⟨a, vs, _, e', h1, h2, h3⟩ := ok.slot i _ _ q h
      cases e'
      exact .inr (.inl ⟨a, vs, xs, rfl, rfl, h1, h3⟩)
    · rename_i xs q
      cases e
      obtain ⟨_, a, u, e', _, h1, h2, h3⟩ := ok.slot i _ _ q h
      cases e'
      exact .inr (.inr ⟨a, u, xs, rfl, rfl, h1, h3⟩)
    · cases e
theorem Vw.dp {K : PySem.W.Frag} {B H : Hp} {v : V} {d : D} (bh : Same B H) (n : noD d = true) (h : Vw K B H v d) : Dp K H v d := by
  rcases h with h | ⟨a, vs, xs, rfl, rfl, h1, h2⟩ | ⟨a, u, xs, rfl, rfl, h1, h2⟩
  · exact dp_same bh _ _ h
  · exact .lst (.inl (Rd.of h1)) (dps_same bh _ _ h2)
  · simp [noD] at n
theorem Vw.list {K : PySem.W.Frag} {B H : Hp} {v : V} {xs : List D} (bh : Same B H) (h : Vw K B H v (.list xs)) : ∃ a vs, v = .ref a ∧ SqL K H a vs ∧ DpAll K B vs xs := by
  rcases h with h | ⟨a, vs, ys, rfl, e, h1, h2⟩ | ⟨a, u, ys, rfl, e, h1, h2⟩
  · cases h with
    | lst hs ha => exact ⟨_, _, rfl, sqL_same bh hs, ha⟩
  · cases e
    exact ⟨a, vs, rfl, .inl (Rd.of h1), h2⟩
  · cases e
theorem Vw.tup {K : PySem.W.Frag} {B H : Hp} {v : V} {xs : List D} (bh : Same B H) (h : Vw K B H v (.tuple xs)) : ∃ a vs, v = .ref a ∧ SqT K H a vs ∧ DpAll K B vs xs := by
  rcases h with h | ⟨a, vs, ys, rfl, e, h1, h2⟩ | ⟨a, u, ys, rfl, e, h1, h2⟩
  · cases h with
    | tup hs ha => exact ⟨_, _, rfl, SqT.of (bh _ _ hs), ha⟩
  · cases e
  · cases e
theorem Vw.int {K : PySem.W.Frag} {B H : Hp} {v : V} {i : Int} (h : Vw K B H v (.int i)) : v = .int i := by
  rcases h with h | ⟨a, vs, ys, rfl, e, h1, h2⟩ | ⟨a, u, ys, rfl, e, h1, h2⟩
  · cases h; rfl
  · cases e
  · cases e
theorem Vw.bool {K : PySem.W.Frag} {B H : Hp} {v : V} {i : Bool} (h : Vw K B H v (.bool i)) : v = .bl i := by
  rcases h with h | ⟨a, vs, ys, rfl, e, h1, h2⟩ | ⟨a, u, ys, rfl, e, h1, h2⟩
  · cases h; rfl
  · cases e
  · cases e
theorem Vw.str {K : PySem.W.Frag} {B H : Hp} {v : V} {i : Str} (h : Vw K B H v (.str i)) : v = .str i := by
  rcases h with h | ⟨a, vs, ys, rfl, e, h1, h2⟩ | ⟨a, u, ys, rfl, e, h1, h2⟩
  · cases h; rfl
  · cases e
  · cases e
theorem Vw.non {K : PySem.W.Frag} {B H : Hp} {v : V} (h : Vw K B H v .none) : v = .non := by
  rcases h with h | ⟨a, vs, ys, rfl, e, h1, h2⟩ | ⟨a, u, ys, rfl, e, h1, h2⟩
  · cases h; rfl
  · cases e
  · cases e
theorem Vw.dict {K : PySem.W.Frag} {B H : Hp} {v : V} {ks : List (D × D)} (bh : Same B H) (h : Vw K B H v (.dict ks)) : ∃ a u, v = .ref a ∧ Rd H a u ∧ DcOk K B u ks := by
  rcases h with h | ⟨a, vs, ys, rfl, e, h1, h2⟩ | ⟨a, u, ys, rfl, e, h1, h2⟩
  · cases h with
    | dic hb hc => exact ⟨_, _, rfl, .inr ⟨_, bh _ _ hb⟩, hc⟩
  · cases e
  · cases e
    exact ⟨a, u, rfl, Rd.of h1, h2⟩
def views (s : SD) : List RV → Option (List D)
  | [] => some []
  | r :: rs => match view s r, views s rs with
    | some d, some ds => some (d :: ds)
    | _, _ => none
theorem vws_of {p : Pr} {H0 : Hp} {σ : St} {s : SD} {B H : Hp} (ok : StOk p B H σ s) : ∀ {vs : List V} {rs : List RV} {ds : List D}, RvsOk p H0 σ s B H vs rs → views s rs = some ds → VsAll p.K B H vs ds
  | _, _, _, .nil, e => by
    cases e
    exact .nil
  | _, _, _, .cons h t, e => by
    unfold views at e
    split at e
    · rename_i d ds e1 e2
      cases e
      exact .cons (vw_of h ok e1) (vws_of ok t e2)
    · cases e
theorem RvsOk.later {p : Pr} {H0 : Hp} {σ : St} {s s' : SD} {B H B' H' : Hp} (e : Ext σ s s' B H B' H') : ∀ {vs : List V} {rs : List RV}, RvsOk p H0 σ s B H vs rs → RvsOk p H0 σ s' B' H' vs rs
  | _, _, .nil => .nil
  | _, _, .cons h t => .cons (h.later e) (t.later e)
theorem RvsOk.back {p : Pr} {H0 H00 : Hp} {σ : St} {s : SD} {B H : Hp} (d : ∀ b, H0 b = none → H00 b = none) : ∀ {vs : List V} {rs : List RV}, RvsOk p H0 σ s B H vs rs → RvsOk p H00 σ s B H vs rs
  | _, _, .nil => .nil
  | _, _, .cons h t => .cons (h.back d) (t.back d)

/-! ### operations by data -/
inductive PO where
  | val (d : D) | tup (ds : List D) | lst (ds : List D) | dct (ks : List (D × D))
def poR (s : SD) : PO → R RV
  | .val d => .ok (.imm d) s
  | .tup ds => .ok (.imm (.tuple ds)) s
  | .lst ds => .ok (.tmp ds) s
  | .dct ks => .ok (.tmpd ks) s
def poPost (K : PySem.W.Frag) (B H : Hp) (Q : VK) : PO → Prop
  | .val d => ∀ v, Dp K B v d → Q v H
  | .tup ds => ∀ p vs, H p = none → DpAll K B vs ds → Q (.ref p) (upd H p (.tup vs))
  | .lst ds => ∀ p vs, H p = none → DpAll K B vs ds → Q (.ref p) (upd H p (.lst vs))
  | .dct ks => ∀ p u, H p = none → Mutb u → DcOk K B u ks → Q (.ref p) (upd H p u)
theorem po_post {p : Pr} {W : WX} {σ : St} {s : SD} {B H H0 : Hp} {Q : VK} (ok : StOk p B H σ s) (d0 : ∀ b, H b = none → H0 b = none) :
    ∀ {o : PO}, (run p W σ s B H (poR s o) fun r s' B' H' => ∀ v, RvOk p H0 σ s' B' H' v r → Q v H') → poPost p.K B H Q o
  | .val d, h => fun v hv => h B H .refl ok v hv
  | .tup ds, h => fun q vs n hv => h (upd B q (.tup vs)) (upd H q (.tup vs)) (.newB ok.bh n) (ok.newB n) _ (Dp.tup upd_same (dps_same (same_upd (ok.bh.free n)) _ _ hv))
  | .lst ds, h => fun q vs n hv => h B (upd H q (.lst vs)) (.newH n) (ok.newH n mutb_lst) _ ⟨q, vs, rfl, d0 _ n, upd_same, ok.bh.free n, hv, ok.notOwn n⟩
  | .dct ks, h => fun q u n m hv => h B (upd H q u) (.newH n) (ok.newH n m) _ ⟨q, u, rfl, d0 _ n, upd_same, ok.bh.free n, hv, ok.notOwn n⟩
def PrimOk (K : PySem.W.Frag) (r : List V → Hp → VK → Prop) (h : List D → Option PO) : Prop :=
  ∀ (B H : Hp) (vs : List V) (ds : List D) (o : PO) (Q : VK), Same B H → VsAll K B H vs ds → h ds = some o → poPost K B H Q o → r vs H Q
def Prim1 (K : PySem.W.Frag) (r : V → Hp → VK → Prop) (h : D → Option PO) : Prop :=
  ∀ (B H : Hp) (v : V) (d : D) (o : PO) (Q : VK), Same B H → Vw K B H v d → h d = some o → poPost K B H Q o → r v H Q
def Prim2 (K : PySem.W.Frag) (r : R2) (h : D → D → Option PO) : Prop :=
  ∀ (B H : Hp) (v w : V) (d e : D) (o : PO) (Q : VK), Same B H → Vw K B H v d → Vw K B H w e → h d e = some o → poPost K B H Q o → r v w H Q
def oR (s : SD) : Option PO → R RV
  | some o => poR s o
  | none => .no
def f1 (h : D → Option PO) (f : FE) : FE := fun s => (f s).bind fun r s1 => match view s1 r with
  | some d => oR s1 (h d)
  | none => .no
def f2 (h : D → D → Option PO) (f g : FE) : FE := fun s => (f s).bind fun r1 s1 => (g s1).bind fun r2 s2 => match view s2 r1, view s2 r2 with
  | some d, some e => oR s2 (h d e)
  | _, _ => .no
def fCall (h : List D → Option PO) (f : FA) : FE := fun s => (f s).bind fun rs s1 => match views s1 rs with
  | some ds => oR s1 (h ds)
  | none => .no
section
variable {X : Cx} {p : Pr} {W : WX} {σ : St} {H : Hp} {Q : VK} {f g : FE}
theorem t1_of {r : V → Hp → VK → Prop} {h : D → Option PO} (ho : Prim1 p.K r h) (q : tE p W (f1 h f) σ H Q) : tUn r (tE p W f) σ H Q := by
  obtain ⟨B, s, ok, q⟩ := q
  refine ⟨B, s, ok, run_mono (run_bind q) fun r1 s1 B1 H1 x1 ok1 k v hv => ?_⟩
  revert k
  cases ev : view s1 r1 with
  | none => exact fun k => k.elim
  | some d =>
    cases eh : h d with
    | none =>
      intro k
      simp only [eh] at k
      exact k.elim
    | some o =>
      intro k
      simp only [eh] at k
      exact ho B1 H1 v d o Q ok1.bh (vw_of hv ok1 ev) eh (po_post ok1 x1.dom k)
theorem t2_of {r : R2} {h : D → D → Option PO} (ho : Prim2 p.K r h) (q : tE p W (f2 h f g) σ H Q) : tOp r (tE p W f) (tE p W g) σ H Q := by
  obtain ⟨B, s, ok, q⟩ := q
  refine ⟨B, s, ok, run_mono (run_bind q) fun r1 s1 B1 H1 x1 ok1 k v hv => ⟨B1, s1, ok1, run_mono (run_bind k) fun r2 s2 B2 H2 x2 ok2 k2 w hw => ?_⟩⟩
  revert k2
  cases e1 : view s2 r1 with
  | none => exact fun k => k.elim
  | some d =>
    cases e2 : view s2 r2 with
    | none => exact fun k => k.elim
    | some e =>
      cases eh : h d e with
      | none =>
        intro k
        simp only [eh] at k
        exact k.elim
      | some o =>
        intro k
        simp only [eh] at k
        exact ho B2 H2 v w d e o Q ok2.bh (vw_of (hv.later x2) ok2 e1) (vw_of hw ok2 e2) eh (po_post ok2 (fun b z => x1.dom b (x2.dom b z)) k)
theorem tCB_of {r : List V → Hp → VK → Prop} {h : List D → Option PO} {f : FA} (ho : PrimOk p.K r h) (q : tE p W (fCall h f) σ H Q) : tCB r (tA p W f) σ H Q := by
  obtain ⟨B, s, ok, q⟩ := q
  refine ⟨B, s, ok, run_mono (run_bind q) fun r1 s1 B1 H1 x1 ok1 k vs hv => ?_⟩
  revert k
  cases ev : views s1 r1 with
  | none => exact fun k => k.elim
  | some d =>
    cases eh : h d with
    | none =>
      intro k
      simp only [eh] at k
      exact k.elim
    | some o =>
      intro k
      simp only [eh] at k
      exact ho B1 H1 vs d o Q ok1.bh (vws_of ok1 hv ev) eh (po_post ok1 x1.dom k)
end

/-! ### names, constants -/
def fImm (d : D) : FE := fun s => .ok (.imm d) s
def fName (i : Nat) : FE := fun s => match getS s i with
  | some (some (.imm d)) => .ok (.imm d) s
  | some (some (.own _)) => .ok (.slot i) s
  | some (some (.lent _)) => .ok (.slot i) s
  | some (some (.dct _)) => .ok (.slot i) s
  | _ => .no
section
variable {X : Cx} {p : Pr} {W : WX} {f g : FE} {fa : FA} {a b e : Expr} {es : List Expr} {pos : Pos}
theorem tE_imm {σ : St} {H : Hp} {Q : VK} {d : D} {v : V} (h : tE p W (fImm d) σ H Q) (hv : ∀ B, Dp p.K B v d) : Q v H := by
  obtain ⟨B, s, ok, r⟩ := h
  exact r B H .refl ok v (hv B)
theorem de_int {i j pos} : PE X (.Constant (.int i) j pos) (tE p W (fImm (.int i))) := PE.imp pe_int fun σ H Q h => tE_imm h fun _ => .int i
theorem de_bl {i j pos} : PE X (.Constant (.bool i) j pos) (tE p W (fImm (.bool i))) := PE.imp pe_bl fun σ H Q h => tE_imm h fun _ => .bl i
theorem de_non {j pos} : PE X (.Constant .none j pos) (tE p W (fImm .none)) := PE.imp pe_non fun σ H Q h => tE_imm h fun _ => .non
theorem de_str {i j pos} : PE X (.Constant (.str i) j pos) (tE p W (fImm (.str i))) := PE.imp pe_str fun σ H Q h => tE_imm h fun _ => .str i
/-- a constant of the module -/
theorem de_glob {x : Str} {v : V} {d : D} {u : Value} (hg : Gl X x) (hm : X.mg x = some u) (r : RelV v u) (hv : ∀ B, Dp p.K B v d) (hd : (x == ("__debug__" : Str)) = false := by decide) : PE X (.Name x pos) (tE p W (fImm d)) :=
  PE.imp (pe_glob hg hm r hd) fun σ H Q h => tE_imm h hv
theorem de_name (i : Nat) {x : Str} (hN : X.N[i]? = some x := by rfl) (hv : Vis X.env.scope x := by first | exact Or.inl rfl | exact Or.inr (Or.inl rfl) | exact Or.inr (Or.inr rfl)) (hd : (x == ("__debug__" : Str)) = false := by decide)
    (hcd : (x == ("__classdict__" : Str)) = false := by decide) : PE X (.Name x pos) (tE p W (fName i)) := PE.imp (pe_var hN hv hd hcd) fun σ H Q h => by
  obtain ⟨B, s, ok, r⟩ := h
  have hl : ∀ dv, s[i]? = some dv → ∃ v, σ[i]? = some v := fun dv e => by
    obtain ⟨hi, _⟩ := List.getElem?_eq_some_iff.mp e
    exact ⟨_, List.getElem?_eq_getElem (by rw [ok.len]; exact hi)⟩
  unfold fName at r
  rw [getS_eq] at r
  cases e : s[i]? with
  | none =>
    rw [e] at r
    exact r.elim
  | some dv =>
    obtain ⟨v, hv⟩ := hl dv e
    have q := ok.slot i dv v e hv
    match dv, q with
    | none, q =>
      rw [e] at r
      exact r.elim
    | some (.imm d), ⟨_, x, ex, hx⟩ =>
      rw [e] at r
      subst ex
      exact ⟨x, hv, r B H .refl ok x hx⟩
    | some (.own xs), ⟨_, a, vs, ex, _⟩ =>
      rw [e] at r
      subst ex
      exact ⟨_, hv, r B H .refl ok _ hv⟩
    | some (.lent xs), ⟨a, vs, _, ex, _⟩ =>
      rw [e] at r
      subst ex
      exact ⟨_, hv, r B H .refl ok _ hv⟩
    | some .exc, q =>
      rw [e] at r
      exact r.elim
    | some (.dct ks), ⟨_, a, u, ex, _⟩ =>
      rw [e] at r
      subst ex
      exact ⟨_, hv, r B H .refl ok _ hv⟩

/-! ### argument lists -/
def faNil : FA := fun s => .ok [] s
def faCons (f : FE) (g : FA) : FA := fun s => (f s).bind fun r s1 => (g s1).bind fun rs s2 => .ok (r :: rs) s2
theorem da_nil : PA X [] (tA p W faNil) := PA.imp pa_nil fun σ H Q h => by
  obtain ⟨B, s, ok, r⟩ := h
  exact r B H .refl ok [] .nil
theorem da_cons (ha : PE X e (tE p W f)) (hr : PA X es (tA p W fa)) (hs : starEach (e :: es) X.env = (false, eval e X.env) :: starEach es X.env := by rfl) : PA X (e :: es) (tA p W (faCons f fa)) := PA.imp (pa_cons ha hr hs) fun σ H Q h => by
  obtain ⟨B, s, ok, q⟩ := h
  refine ⟨B, s, ok, run_mono (run_bind q) fun r1 s1 B1 H1 x1 ok1 k v hv => ⟨B1, s1, ok1, run_mono (run_bind k) fun rs s2 B2 H2 x2 ok2 k2 vs hvs => ?_⟩⟩
  exact k2 B2 H2 .refl ok2 _ (.cons (hv.later x2) (hvs.back x1.dom))

/-! ### operators, calls of built-ins -/
theorem de_bin {op : Operator} {r : R2} {h : D → D → Option PO} (ho : OpR X (binaryOp op) r) (hp : Prim2 p.K r h) (ha : PE X a (tE p W f)) (hb : PE X b (tE p W g)) : PE X (.BinOp a op b pos) (tE p W (f2 h f g)) := PE.imp (pe_op ho ha hb) fun σ H Q q => t2_of hp q
theorem de_un {op : UnaryOp} {r : V → Hp → VK → Prop} {h : D → Option PO} (ho : UnR X (unaryOp op) r) (hp : Prim1 p.K r h) (ha : PE X a (tE p W f)) : PE X (.UnaryOp op a pos) (tE p W (f1 h f)) := PE.imp (pe_un ho ha) fun σ H Q q => t1_of hp q
theorem de_cmp {op : CmpOp} {r : R2} {h : D → D → Option PO} (ho : OpR X (compareOp op) r) (hp : Prim2 p.K r h) (ha : PE X a (tE p W f)) (hb : PE X b (tE p W g)) (hm : behindInMarks op b = false) : PE X (.Compare a [op] [b] pos) (tE p W (f2 h f g)) := PE.imp (pe_cmpR ho ha hb hm) fun σ H Q q => t2_of hp q
theorem de_ix {r : R2} {h : D → D → Option PO} (hr : IxR X r) (hp : Prim2 p.K r h) (ha : PE X a (tE p W f)) (hb : PE X b (tE p W g)) (hs : PlainIx b) : PE X (.Subscript a b pos) (tE p W (f2 h f g)) := PE.imp (pe_ix hr ha hb hs) fun σ H Q q => t2_of hp q
theorem de_callB {x : Str} {id : String} {r : List V → Hp → VK → Prop} {h : List D → Option PO} {p' : Pos} (hc : CallR X (.builtin id) r) (hp : PrimOk p.K r h) (hg : Gl X x) (hm : X.mg x = none) (hv : bootBuiltins x = some (.builtin id)) (ha : PA X (e :: es) (tA p W fa)) (hn : x ≠ "__name__" := by decide) (hdb : (x == ("__debug__" : Str)) = false := by decide)
    (he : starEach (e :: es) X.env = (false, eval e X.env) :: starEach es X.env := by rfl) (hpl : (backTo pos (starEach es X.env)).any (·.1) = false := by rfl) : PE X (.Call (.Name x p') (e :: es) [] pos) (tE p W (fCall h fa)) := PE.imp (pe_callB hc hg hm hv ha hn hdb he hpl) fun σ H Q q => tCB_of hp q
theorem de_callTy {x : Str} {T : String} {r : List V → Hp → VK → Prop} {h : List D → Option PO} {p' : Pos} (hc : CallR X (.type T) r) (hp : PrimOk p.K r h) (hg : Gl X x) (hm : X.mg x = none) (hv : bootBuiltins x = some (.type T)) (ha : PA X (e :: es) (tA p W fa)) (hn : x ≠ "__name__" := by decide) (hdb : (x == ("__debug__" : Str)) = false := by decide)
    (he : starEach (e :: es) X.env = (false, eval e X.env) :: starEach es X.env := by rfl) (hpl : (backTo pos (starEach es X.env)).any (·.1) = false := by rfl) : PE X (.Call (.Name x p') (e :: es) [] pos) (tE p W (fCall h fa)) := PE.imp (pe_callTy hc hg hm hv ha hn hdb he hpl) fun σ H Q q => tCB_of hp q

/-! ### a fresh list is given away -/
def toImm : RV → Option D
  | .imm d => some d
  | .tmp xs => some (.list xs)
  | .slot _ => none
  | .tmpd ks => some (.dict ks)
def fI (f : FE) : FE := fun s => (f s).bind fun r s1 => match toImm r with
  | some d => .ok (.imm d) s1
  | none => .no
theorem StOk.froz {p : Pr} {B H : Hp} {σ : St} {s : SD} {c : Addr} {vs : List V} (ok : StOk p B H σ s) (hz : p.Z c = none) (h1 : H c = some (.lst vs)) (h2 : B c = none) (h4 : ∀ i, ¬ Owns σ s i c) : StOk p (upd B c (.lst vs)) H σ s := by
  have sb : Same B (upd B c (.lst vs)) := same_upd h2
  have nb : ∀ b, b ≠ c → B b = none → upd B c (.lst vs) b = none := fun b hb e => by
    rw [upd_ne hb]
    exact e
  refine ⟨ok.len, fun i dv v e1 e2 => ?_, ok.sep, ok.b0.trans sb, fun b o z => ?_, ok.fr, ok.dom, fun b z e => nb b (fun q => z (by rw [q]; exact hz)) (ok.new b z e), fun b xs h => by
    rw [upd_ne (fun w => by rw [w, h1] at h; cases h)]
    exact ok.tb b xs h⟩
  · have q := ok.slot i dv v e1 e2
    match dv, q with
    | none, q => exact q
    | some (.imm d), ⟨l, x, e, r⟩ => exact ⟨l, x, e, dp_same sb _ _ r⟩
    | some (.own xs), ⟨l, a, us, e, z, h, n, r⟩ => exact ⟨l, a, us, e, z, h, nb a (fun q => h4 i (by rw [← q]; exact ⟨by rw [e2, e], _, e1, rfl⟩)) n, dps_same sb _ _ r⟩
    | some (.lent xs), ⟨a, us, l, e, h, n, r⟩ => exact ⟨a, us, l, e, h, nb a (fun q => h4 i (by rw [← q]; exact ⟨by rw [e2, e], _, e1, rfl⟩)) n, dps_same sb _ _ r⟩
    | some .exc, q => exact q
    | some (.dct ks), ⟨l, a, u, e, z, h, n, r⟩ => exact ⟨l, a, u, e, z, h, nb a (fun q => h4 i (by rw [← q]; exact ⟨by rw [e2, e], _, e1, rfl⟩)) n, dcs_same sb _ _ r⟩
  · by_cases q : b = c
    · subst q
      rw [upd_same] at z
      cases z
      exact h1
    · rw [upd_ne q] at z
      exact ok.bh b o z
/-- the value is known to its object from here on -/
def tFrzE (t : TE) : TE := fun σ H Q => t σ H fun x H1 => Q x H1 ∨ ∃ d u, H1 d = some u ∧ Mut (some u) ∧ ∀ od, Q x (upd H1 d (.frz od u))
theorem pe_frz {X : Cx} {e : Expr} {t : TE} (h : PE X e t) : PE X e (tFrzE t) := by
  refine ⟨fun pins s σ H Q I hw => ?_⟩
  refine thn (h.run pins s σ H _ I hw) fun v s1 ⟨x, H1, I2, r, q⟩ => ?_
  rcases q with q | ⟨d, u, hd, mu, q⟩
  · exact ⟨x, H1, I2, r, q⟩
  · obtain ⟨od, I3⟩ := I2.lock hd mu
    exact ⟨x, _, I3, r, q od⟩
theorem DcOk.mut {K : PySem.W.Frag} {B : Hp} {u : HO} {ks : List (D × D)} (h : DcOk K B u ks) : Mut (some u) := by
  cases h <;> trivial
theorem StOk.frozD {p : Pr} {B H : Hp} {σ : St} {s : SD} {c : Addr} {u : HO} {od : Obj} (ok : StOk p B H σ s) (hz : p.Z c = none) (h2 : B c = none) (h4 : ∀ i, ¬ Owns σ s i c) : StOk p (upd B c (.frz od u)) (upd H c (.frz od u)) σ s := by
  have sb : Same B (upd B c (.frz od u)) := same_upd h2
  have nb : ∀ b, b ≠ c → B b = none → upd B c (.frz od u) b = none := fun b hb e => by
    rw [upd_ne hb]
    exact e
  have nh : ∀ b o, b ≠ c → H b = some o → upd H c (.frz od u) b = some o := fun b o hb e => by
    rw [upd_ne hb]
    exact e
  refine ⟨ok.len, fun i dv v e1 e2 => ?_, ok.sep, ok.b0.trans sb, same_upd2 ok.bh, fun b o z n => nh b o (fun w => by rw [w, hz] at z; cases z) (ok.fr b o z n), fun b z => ok.dom b (upd_none z), fun b z e => nb b (fun q => z (by rw [q]; exact hz)) (ok.new b z e), fun b xs h => ?_⟩
  · have q := ok.slot i dv v e1 e2
    have nc : ∀ {a : Addr} {x : DV}, v = some (.ref a) → dv = some x → x.mut = true → a ≠ c := fun {a x} hv hd hm w => h4 i (by rw [← w]; exact ⟨by rw [e2, hv], x, by rw [e1, hd], hm⟩)
    match dv, q with
    | none, q => exact q
    | some (.imm d), ⟨l, x, e, r⟩ => exact ⟨l, x, e, dp_same sb _ _ r⟩
    | some (.own xs), ⟨l, a, us, e, z, h, n, r⟩ => exact ⟨l, a, us, e, z, nh a _ (nc e rfl rfl) h, nb a (nc e rfl rfl) n, dps_same sb _ _ r⟩
    | some (.lent xs), ⟨a, us, l, e, h, n, r⟩ => exact ⟨a, us, l, e, nh a _ (nc e rfl rfl) h, nb a (nc e rfl rfl) n, dps_same sb _ _ r⟩
    | some .exc, q => exact q
    | some (.dct ks), ⟨l, a, us, e, z, h, n, r⟩ => exact ⟨l, a, us, e, z, nh a _ (nc e rfl rfl) h, nb a (nc e rfl rfl) n, dcs_same sb _ _ r⟩
  · by_cases w : b = c
    · rw [w, upd_same] at h
      cases h
    · rw [upd_ne w] at h ⊢
      exact ok.tb b xs h
theorem de_imm (ha : PE X e (tE p W f)) : PE X e (tE p W (fI f)) := PE.imp (pe_frz ha) fun σ H Q h => by
  obtain ⟨B, s, ok, q⟩ := h
  refine ⟨B, s, ok, ?_⟩
  unfold fI at q
  cases ef : f s with
  | no =>
    rw [ef] at q
    exact q
  | ex e' s' =>
    rw [ef] at q
    exact q
  | ok r1 s1 =>
    rw [ef] at q
    intro B1 H1 x1 ok1 v hv
    cases r1 with
    | imm d => exact .inl (q B1 H1 x1 ok1 v hv)
    | slot i => exact q.elim
    | tmp xs =>
      obtain ⟨c, vs, rfl, h0, h1, h2, h3, h4⟩ := hv
      refine .inl (q (upd B1 c (.lst vs)) H1 ⟨x1.bb.trans (same_upd h2), x1.hh, x1.dom, fun b z e => ?_, x1.own⟩ (ok1.froz (ok.dom c h0) h1 h2 h4) _ (Dp.lst (.inl (Rd.of upd_same)) (dps_same (same_upd h2) _ _ h3)))
      rw [upd_ne (fun w => z (by rw [w]; exact h0))]
      exact x1.new b z e
    | tmpd ks =>
      obtain ⟨c, u, rfl, h0, h1, h2, h3, h4⟩ := hv
      refine .inr ⟨c, u, h1, h3.mut, fun od => ?_⟩
      refine q (upd B1 c (.frz od u)) (upd H1 c (.frz od u)) ⟨x1.bb.trans (same_upd h2), fun b o z n => ?_, fun b z => x1.dom b (upd_none z), fun b z e => ?_, x1.own⟩ (ok1.frozD (ok.dom c h0) h2 h4) _ (Dp.dic upd_same (dcs_same (same_upd h2) _ _ h3))
      · rw [upd_ne (fun w => by rw [w, h0] at z; cases z)]
        exact x1.hh b o z n
      · rw [upd_ne (fun w => z (by rw [w]; exact h0))]
        exact x1.new b z e
end
end DL
end

set_option Elab.async false
set_option linter.all false
set_option maxRecDepth 100000
set_option maxHeartbeats 4000000
noncomputable section
namespace DL
open PySem PySem.Spec PyProof.Rows L2

/-! ### operators: what they do to data -/
def mx : Nat := 16000000
theorem mx_le {n : Nat} (h : n ≤ mx) : n ≤ sizeLine := Nat.le_trans h (by decide)
theorem mx_lt {n : Nat} (h : n ≤ mx) : n < sizeLine := Nat.lt_of_le_of_lt h (by decide)
theorem opR_or {X : Cx} {f : Value → Value → Sem Value} {r r' : R2} (a : OpR X f r) (b : OpR X f r') : OpR X f (fun x y H Q => r x y H Q ∨ r' x y H Q) := fun pins s σ H x y v u Q I rx ry h => by
  rcases h with h | h
  · exact a pins s σ H x y v u Q I rx ry h
  · exact b pins s σ H x y v u Q I rx ry h
theorem callR_or {X : Cx} {f : Value} {r r' : List V → Hp → VK → Prop} (a : CallR X f r) (b : CallR X f r') : CallR X f (fun xs H Q => r xs H Q ∨ r' xs H Q) := fun pins s σ H xs us Q I rx h => by
  rcases h with h | h
  · exact a pins s σ H xs us Q I rx h
  · exact b pins s σ H xs us Q I rx h
theorem Vw.dpT {K : PySem.W.Frag} {B H : Hp} {v : V} {xs : List D} (h : Vw K B H v (.tuple xs)) : Dp K B v (.tuple xs) := by
  rcases h with h | ⟨a, vs, ys, rfl, e, h1, h2⟩ | ⟨a, vs, ys, rfl, e, h1, h2⟩
  · exact h
  · cases e
  · cases e
def rCatR (K : PySem.W.Frag) : R2 := fun x y H Q => ∃ l b xs zs, x = .ref l ∧ y = .ref b ∧ SqL K H l xs ∧ SqL K H b zs ∧ xs.length + zs.length ≤ sizeLine ∧ ∀ p, H p = none → Q (.ref p) (upd H p (.lst (xs ++ zs)))
theorem op_catR {X : Cx} : OpR X (binaryOp .Add) (rCatR X.K) := by
  intro pins s σ H x y v u Q I rx ry h
  obtain ⟨l, b, xs, zs, rfl, rfl, hH, hB, hz, q⟩ := h
  cases rx
  cases ry
  obtain ⟨its, r, ⟨⟨c1, d1, t1, s1⟩, n, e, hc, -, hd⟩, z⟩ := I.list hH
  obtain ⟨its2, r2, ⟨⟨c2, d2, t2, s2⟩, n2, e2, hc2, -, hd2⟩, z2⟩ := I.list hB
  simp only at hc hd hc2 hd2
  subst hc hd hc2 hd2
  have hl := r.length
  have hl2 := r2.length
  have ea : its.toArray ++ its2.toArray = (its ++ its2).toArray := by simp
  refine concat_meets ⟨_, e, rfl⟩ ⟨_, e2, rfl⟩ noFill_list_add seq_list_add PySem.F.slot_list_add PySem.F.entry_list_add (PySem.F.args_list_add_2 _ _)
    (list_addW l b its.toArray its2.toArray n n2 d1 d2 s1 s2 (by rw [List.size_toArray, List.size_toArray]; omega)) ⟨e, e2, ?_⟩
  rw [ea]
  exact ⟨.ref _, _, I.lnew (t' := s.toks) (r.append r2) (by rw [List.length_append]; omega), rfl, q _ I.fresh⟩
def hAdd : D → D → Option PO
  | .int i, .int j => some (.val (.int (i + j)))
  | .str i, .str j => if i.length + j.length ≤ mx then some (.val (.str (i ++ j))) else none
  | .list xs, .list ys => if xs.length + ys.length ≤ mx then some (.lst (xs ++ ys)) else none
  | .tuple xs, .tuple ys => if xs.length + ys.length ≤ mx then (match xs, ys with
    | [], ys => some (.val (.tuple ys))
    | x :: xs, [] => some (.val (.tuple (x :: xs)))
    | x :: xs, y :: ys => some (.tup (x :: xs ++ y :: ys))) else none
  | _, _ => none
def rAddD (K : PySem.W.Frag) : R2 := fun x y H Q => (rI0 (fun i j => V.int (i + j))) x y H Q ∨ ((∃ i j, x = .str i ∧ y = .str j ∧ i.length + j.length ≤ sizeLine ∧ Q (.str (i ++ j)) H) ∨ (rCatR K x y H Q ∨ rCatA K x y H Q))
theorem op_addD {X : Cx} : OpR X (binaryOp .Add) (rAddD X.K) := opR_or op_add (opR_or op_add_str (opR_or op_catR op_catA))
theorem pr_add {K : PySem.W.Frag} : Prim2 K (rAddD K) hAdd := by
  intro B H v w d e o Q bh hv hw he hq
  unfold hAdd at he
  split at he
  · cases he
    exact .inl ⟨_, _, hv.int, hw.int, hq _ (.int _)⟩
  · rename_i i j
    split at he
    · rename_i hz
      cases he
      exact .inr (.inl ⟨_, _, hv.str, hw.str, mx_le hz, hq _ (.str _)⟩)
    · cases he
  · rename_i xs ys
    split at he
    · rename_i hz
      cases he
      obtain ⟨a, vs, rfl, h1, h2⟩ := hv.list bh
      obtain ⟨b, ws, rfl, h3, h4⟩ := hw.list bh
      exact .inr (.inr (.inl ⟨a, b, vs, ws, rfl, rfl, h1, h3, by rw [dps_len h2, dps_len h4]; exact mx_le hz, fun q n => hq q _ n (dps_app h2 h4)⟩))
    · cases he
  · rename_i xs ys
    split at he
    · rename_i hz
      have dv := hv.dpT
      have dw := hw.dpT
      obtain ⟨a, vs, rfl, h1, h2⟩ := hv.tup bh
      obtain ⟨b, ws, rfl, h3, h4⟩ := hw.tup bh
      refine .inr (.inr (.inr ⟨a, b, vs, ws, rfl, rfl, h1, h3, by rw [dps_len h2, dps_len h4]; exact mx_le hz, fun z => ?_, fun z1 z2 => ?_, fun z1 z2 q n => ?_⟩))
      · subst z
        cases h2
        cases he
        exact hq _ dw
      · subst z2
        cases h4
        cases h2 with
        | nil => exact absurd rfl z1
        | cons _ _ =>
          cases he
          exact hq _ dv
      · cases h2 with
        | nil => exact absurd rfl z1
        | cons x1 t1 =>
          cases h4 with
          | nil => exact absurd rfl z2
          | cons x2 t2 =>
            cases he
            exact hq q _ n (dps_app (.cons x1 t1) (.cons x2 t2))
    · cases he
  · cases he

def hSub : D → D → Option PO
  | .int i, .int j => some (.val (.int (i - j)))
  | _, _ => none
theorem pr_sub {K : PySem.W.Frag} : Prim2 K (rI0 fun i j => V.int (i - j)) hSub := by
  intro B H v w d e o Q bh hv hw he hq
  unfold hSub at he
  split at he
  · cases he
    exact ⟨_, _, hv.int, hw.int, hq _ (.int _)⟩
  · cases he
def rRepR : R2 := fun x y H Q => ∃ l k xs, x = .ref l ∧ y = .int k ∧ H l = some (.lst xs) ∧ -(2 ^ 63) ≤ k ∧ k < 2 ^ 63 ∧ xs.length * k.toNat ≤ sizeLine ∧
  ∀ p, H p = none → Q (.ref p) (upd H p (.lst (List.replicate k.toNat xs).flatten))
def small64 (i : Int) : Bool := decide (-18446744073709551616 < i) && decide (i < 18446744073709551616)
theorem p64 : (2 : Int) ^ 64 = 18446744073709551616 := by decide
def hMul : D → D → Option PO
  | .int i, .int j => if small64 i || small64 j then some (.val (.int (i * j))) else none
  | _, _ => none
theorem pr_mul {K : PySem.W.Frag} : Prim2 K (rI CMul fun i j => V.int (i * j)) hMul := by
  intro B H v w d e o Q bh hv hw he hq
  unfold hMul at he
  split at he
  · split at he
    · rename_i hz
      cases he
      refine ⟨_, _, hv.int, hw.int, ?_, hq _ (.int _)⟩
      show (-(2 ^ 64) < _ ∧ _ < 2 ^ 64) ∨ _
      rw [p64]
      unfold small64 at hz
      simp only [Bool.or_eq_true, Bool.and_eq_true, decide_eq_true_eq] at hz
      exact hz
    · cases he
  · cases he
def hDiv : D → D → Option PO
  | .int i, .int j => if j ≠ 0 ∧ j.natAbs < 1073741824 then some (.val (.int (i.fdiv j))) else none
  | _, _ => none
theorem pr_div {K : PySem.W.Frag} : Prim2 K (rI CDivN fun i j => V.int (i.fdiv j)) hDiv := by
  intro B H v w d e o Q bh hv hw he hq
  unfold hDiv at he
  split at he
  · split at he
    · rename_i hz
      cases he
      exact ⟨_, _, hv.int, hw.int, hz, hq _ (.int _)⟩
    · cases he
  · cases he
def hMod : D → D → Option PO
  | .int i, .int j => if j ≠ 0 then some (.val (.int (i.fmod j))) else none
  | _, _ => none
theorem pr_mod {K : PySem.W.Frag} : Prim2 K (rI (fun _ j => j ≠ 0) fun i j => V.int (i.fmod j)) hMod := by
  intro B H v w d e o Q bh hv hw he hq
  unfold hMod at he
  split at he
  · split at he
    · rename_i hz
      cases he
      exact ⟨_, _, hv.int, hw.int, hz, hq _ (.int _)⟩
    · cases he
  · cases he
def hPow : D → D → Option PO
  | .int i, .int j => if 0 ≤ j ∧ j ≤ 1000 ∧ i.natAbs < 2 ^ 64 then some (.val (.int (i ^ j.toNat))) else none
  | _, _ => none
theorem pr_pow {K : PySem.W.Frag} : Prim2 K (rI CPow fun i j => V.int (i ^ j.toNat)) hPow := by
  intro B H v w d e o Q bh hv hw he hq
  unfold hPow at he
  split at he
  · split at he
    · rename_i hz
      cases he
      exact ⟨_, _, hv.int, hw.int, ⟨hz.1, by omega, hz.2.2⟩, hq _ (.int _)⟩
    · cases he
  · cases he
def hNeg : D → Option PO
  | .int i => some (.val (.int (-i)))
  | _ => none
theorem pr_neg {K : PySem.W.Frag} : Prim1 K (rU fun i => V.int (-i)) hNeg := by
  intro B H v d o Q bh hv he hq
  unfold hNeg at he
  split at he
  · cases he
    exact ⟨_, hv.int, hq _ (.int _)⟩
  · cases he

/-! ### comparisons -/
def hCmp (c : Int → Int → Bool) : D → D → Option PO
  | .int i, .int j => some (.val (.bool (c i j)))
  | _, _ => none
theorem pr_cmp {K : PySem.W.Frag} {c : Int → Int → Bool} : Prim2 K (rI0 fun i j => V.bl (c i j)) (hCmp c) := by
  intro B H v w d e o Q bh hv hw he hq
  unfold hCmp at he
  split at he
  · cases he
    exact ⟨_, _, hv.int, hw.int, hq _ (.bl _)⟩
  · cases he
def hLt := hCmp fun i j => decide (i < j)
def hLe := hCmp fun i j => decide (i ≤ j)
def hGt := hCmp fun i j => decide (j < i)
def hGe := hCmp fun i j => decide (j ≤ i)
/-- equal: numbers at once, other data by the general way -/
def eqF : D → D → Option Bool
  | .int i, .int j => some (decide (i = j))
  | .bool i, .bool j => some (i == j)
  | d, e => if SeqAt.shaped d && SeqAt.shaped e then some (PyData.eqv d e) else none
theorem eqF_ok {d e : D} {b : Bool} (h : eqF d e = some b) : SeqAt.shaped d = true ∧ SeqAt.shaped e = true ∧ PyData.eqv d e = b := by
  unfold eqF at h
  split at h
  · cases h
    exact ⟨rfl, rfl, by simp only [PyData.eqv]; rfl⟩
  · cases h
    exact ⟨rfl, rfl, by simp only [PyData.eqv]⟩
  · split at h
    · rename_i hz
      cases h
      rw [Bool.and_eq_true] at hz
      exact ⟨hz.1, hz.2, rfl⟩
    · cases h
def hEq (d e : D) : Option PO := (eqF d e).map fun b => .val (.bool b)
def hNe (d e : D) : Option PO := (eqF d e).map fun b => .val (.bool !b)
theorem pr_eq {K : PySem.W.Frag} : Prim2 K (rEqD K) hEq := by
  intro B H v w d e o Q bh hv hw he hq
  unfold hEq at he
  cases eb : eqF d e with
  | none =>
    rw [eb] at he
    cases he
  | some b =>
    rw [eb] at he
    cases he
    obtain ⟨h1, h2, h3⟩ := eqF_ok eb
    exact ⟨d, e, dp_l2 _ _ (shaped_noD h1) (hv.dp bh (shaped_noD h1)), dp_l2 _ _ (shaped_noD h2) (hw.dp bh (shaped_noD h2)), h1, h2, by rw [h3]; exact hq _ (.bl _)⟩
theorem pr_ne {K : PySem.W.Frag} : Prim2 K (rNeD K) hNe := by
  intro B H v w d e o Q bh hv hw he hq
  unfold hNe at he
  cases eb : eqF d e with
  | none =>
    rw [eb] at he
    cases he
  | some b =>
    rw [eb] at he
    cases he
    obtain ⟨h1, h2, h3⟩ := eqF_ok eb
    exact ⟨d, e, dp_l2 _ _ (shaped_noD h1) (hv.dp bh (shaped_noD h1)), dp_l2 _ _ (shaped_noD h2) (hw.dp bh (shaped_noD h2)), h1, h2, by rw [h3]; exact hq _ (.bl _)⟩
def isNon : D → Bool
  | .none => true
  | _ => false
theorem vw_non {K : PySem.W.Frag} {B H : Hp} {v : V} {d : D} (h : Vw K B H v d) : decide (v = V.non) = isNon d := by
  rcases h with h | ⟨a, vs, xs, rfl, rfl, _⟩ | ⟨a, vs, xs, rfl, rfl, _⟩
  · cases h <;> rfl
  · rfl
  · rfl
/-- is None, is not None -/
def hIsN (d e : D) : Option PO := match e with
  | .none => some (.val (.bool (isNon d)))
  | _ => none
def hNotN (d e : D) : Option PO := match e with
  | .none => some (.val (.bool (!isNon d)))
  | _ => none
theorem pr_isN {K : PySem.W.Frag} : Prim2 K (fun x y H Q => y = .non ∧ Q (.bl (decide (x = .non))) H) hIsN := by
  intro B H v w d e o Q bh hv hw he hq
  unfold hIsN at he
  split at he
  · cases he
    refine ⟨hw.non, ?_⟩
    rw [vw_non hv]
    exact hq _ (.bl _)
  · cases he
theorem pr_notN {K : PySem.W.Frag} : Prim2 K (fun x y H Q => y = .non ∧ Q (.bl (!decide (x = .non))) H) hNotN := by
  intro B H v w d e o Q bh hv hw he hq
  unfold hNotN at he
  split at he
  · cases he
    refine ⟨hw.non, ?_⟩
    rw [vw_non hv]
    exact hq _ (.bl _)
  · cases he
/-- an int in a list of ints, a text in a list of texts -/
def intIn (i : Int) : List D → Option Bool
  | [] => some false
  | .int j :: r => if i = j then (match intIn i r with | some _ => some true | none => none) else intIn i r
  | _ :: _ => none

/-! ### items -/
/-- an item by the recursors alone -/
def getL (xs : List D) : Nat → Option D := List.rec (motive := fun _ => Nat → Option D) (fun _ => none) (fun x _ ih n => Nat.rec (motive := fun _ => Option D) (some x) (fun m _ => ih m) n) xs
theorem getL_eq : ∀ (xs : List D) (i : Nat), getL xs i = xs[i]?
  | [], _ => rfl
  | _ :: _, 0 => rfl
  | _ :: r, i + 1 => getL_eq r i
def atF (xs : List D) : Int → Option D
  | .ofNat n => getL xs n
  | .negSucc n => atI xs (.negSucc n)
theorem atF_eq (xs : List D) (i : Int) : atF xs i = atI xs i := by
  cases i with
  | negSucc n => rfl
  | ofNat n =>
    show getL xs n = atI xs (n : Int)
    rw [getL_eq]
    cases e : xs[n]? with
    | some d => exact (atI_nat e).symm
    | none =>
      unfold atI
      cases q : ixN xs.length (n : Int) with
      | none => rfl
      | some j =>
        have hn : xs.length ≤ n := List.getElem?_eq_none_iff.mp e
        exfalso
        unfold ixN at q
        rw [if_pos (by omega), if_neg (by omega)] at q
        cases q
def hIx : D → D → Option PO
  | .list xs, .int i => (atF xs i).map PO.val
  | .tuple xs, .int i => (atF xs i).map PO.val
  | _, _ => none
theorem atI_dps {K : PySem.W.Frag} {B : Hp} {vs : List V} {ds : List D} {i : Int} {d : D} (h : DpAll K B vs ds) (e : atI ds i = some d) : ∃ v, atI vs i = some v ∧ Dp K B v d := by
  unfold atI at e ⊢
  rw [← dps_len h] at e
  cases q : ixN vs.length i with
  | none =>
    rw [q] at e
    cases e
  | some j =>
    rw [q] at e
    exact dps_get h e
theorem pr_ix {K : PySem.W.Frag} : Prim2 K (rIx K) hIx := by
  intro B H v w d e o Q bh hv hw he hq
  unfold hIx at he
  simp only [atF_eq] at he
  split at he
  · rename_i xs i
    cases ea : atI xs i with
    | none =>
      rw [ea] at he
      cases he
    | some x =>
      rw [ea] at he
      cases he
      obtain ⟨a, vs, rfl, h1, h2⟩ := hv.list bh
      obtain ⟨y, hy, hd⟩ := atI_dps h2 ea
      exact .inl ⟨a, vs, i, y, rfl, hw.int, h1, hy, hq _ hd⟩
  · rename_i xs i
    cases ea : atI xs i with
    | none =>
      rw [ea] at he
      cases he
    | some x =>
      rw [ea] at he
      cases he
      obtain ⟨a, vs, rfl, h1, h2⟩ := hv.tup bh
      obtain ⟨y, hy, hd⟩ := atI_dps h2 ea
      exact .inr (.inl ⟨a, vs, i, y, rfl, hw.int, h1, hy, hq _ hd⟩)
  · cases he

/-! ### built-in functions -/
def hLen : List D → Option PO
  | [.list xs] => some (.val (.int xs.length))
  | [.tuple xs] => some (.val (.int xs.length))
  | _ => none
theorem vs1 {K : PySem.W.Frag} {B H : Hp} {vs : List V} {d : D} (h : VsAll K B H vs [d]) : ∃ v, vs = [v] ∧ Vw K B H v d := by
  cases h with
  | cons h t =>
    cases t
    exact ⟨_, rfl, h⟩
theorem vs2 {K : PySem.W.Frag} {B H : Hp} {vs : List V} {d e : D} (h : VsAll K B H vs [d, e]) : ∃ v w, vs = [v, w] ∧ Vw K B H v d ∧ Vw K B H w e := by
  cases h with
  | cons h t =>
    cases t with
    | cons h' t' =>
      cases t'
      exact ⟨_, _, rfl, h, h'⟩
theorem pr_len {K : PySem.W.Frag} : PrimOk K (fun xs H Q => ∃ p ys, xs = [V.ref p] ∧ (SqL K H p ys ∨ SqT K H p ys) ∧ Q (.int ys.length) H) hLen := by
  intro B H vs ds o Q bh hv he hq
  unfold hLen at he
  split at he
  · cases he
    obtain ⟨v, rfl, h⟩ := vs1 hv
    obtain ⟨a, ws, rfl, h1, h2⟩ := h.list bh
    refine ⟨a, ws, rfl, .inl h1, ?_⟩
    rw [dps_len h2]
    exact hq _ (.int _)
  · cases he
    obtain ⟨v, rfl, h⟩ := vs1 hv
    obtain ⟨a, ws, rfl, h1, h2⟩ := h.tup bh
    refine ⟨a, ws, rfl, .inr h1, ?_⟩
    rw [dps_len h2]
    exact hq _ (.int _)
  · cases he
def hAbs : List D → Option PO
  | [.int i] => some (.val (.int (if i < 0 then -i else i)))
  | _ => none
theorem pr_abs {K : PySem.W.Frag} : PrimOk K (fun xs H Q => ∃ i, xs = [V.int i] ∧ Q (.int (if i < 0 then -i else i)) H) hAbs := by
  intro B H vs ds o Q bh hv he hq
  unfold hAbs at he
  split at he
  · cases he
    obtain ⟨v, rfl, h⟩ := vs1 hv
    exact ⟨_, by rw [h.int], hq _ (.int _)⟩
  · cases he
def hInt : List D → Option PO
  | [.int i] => some (.val (.int i))
  | _ => none
theorem pr_int {K : PySem.W.Frag} : PrimOk K (fun xs H Q => (∃ i, xs = [V.int i] ∧ Q (.int i) H) ∨ ∃ k, xs = [V.bl k] ∧ Q (.int (if k then 1 else 0)) H) hInt := by
  intro B H vs ds o Q bh hv he hq
  unfold hInt at he
  split at he
  · cases he
    obtain ⟨v, rfl, h⟩ := vs1 hv
    exact .inl ⟨_, by rw [h.int], hq _ (.int _)⟩
  · cases he
/-- ints of a list -/
def asInts : List D → Option (List Int)
  | [] => some []
  | .int i :: r => (asInts r).map (i :: ·)
  | _ :: _ => none
theorem asInts_vs {K : PySem.W.Frag} {B : Hp} : ∀ {vs : List V} {ds : List D} {ns : List Int}, DpAll K B vs ds → asInts ds = some ns → vs = ns.map V.int
  | _, [], ns, h, e => by
    cases h
    cases e
    rfl
  | _, d :: ds, ns, h, e => by
    cases h with
    | cons h t =>
      unfold asInts at e
      split at e
      · rename_i q
        cases q
      · rename_i i r q
        cases q
        cases er : asInts ds with
        | none =>
          rw [er] at e
          cases e
        | some ms =>
          rw [er] at e
          cases e
          cases h
          rw [asInts_vs t er]
          rfl
      · cases e
def maxI : Int → List Int → Int
  | m, [] => m
  | m, x :: r => maxI (if m < x then x else m) r
def minI : Int → List Int → Int
  | m, [] => m
  | m, x :: r => minI (if x < m then x else m) r
theorem maxI_spec : ∀ (r : List Int) (m : Int), (maxI m r = m ∨ maxI m r ∈ r) ∧ m ≤ maxI m r ∧ ∀ y ∈ r, y ≤ maxI m r
  | [], m => ⟨.inl rfl, Int.le_refl _, fun _ h => nomatch h⟩
  | x :: r, m => by
    obtain ⟨h1, h2, h3⟩ := maxI_spec r (if m < x then x else m)
    refine ⟨?_, ?_, fun y hy => ?_⟩
    · show maxI (if m < x then x else m) r = m ∨ maxI (if m < x then x else m) r ∈ x :: r
      rcases h1 with h1 | h1
      · rw [h1]
        split
        · exact .inr List.mem_cons_self
        · exact .inl rfl
      · exact .inr (List.mem_cons_of_mem _ h1)
    · show m ≤ maxI (if m < x then x else m) r
      split at h2 <;> split <;> omega
    · show y ≤ maxI (if m < x then x else m) r
      rcases List.mem_cons.mp hy with e | hy
      · subst e
        split at h2 <;> split <;> omega
      · exact h3 y hy
theorem minI_spec : ∀ (r : List Int) (m : Int), (minI m r = m ∨ minI m r ∈ r) ∧ minI m r ≤ m ∧ ∀ y ∈ r, minI m r ≤ y
  | [], m => ⟨.inl rfl, Int.le_refl _, fun _ h => nomatch h⟩
  | x :: r, m => by
    obtain ⟨h1, h2, h3⟩ := minI_spec r (if x < m then x else m)
    refine ⟨?_, ?_, fun y hy => ?_⟩
    · show minI (if x < m then x else m) r = m ∨ minI (if x < m then x else m) r ∈ x :: r
      rcases h1 with h1 | h1
      · rw [h1]
        split
        · exact .inr List.mem_cons_self
        · exact .inl rfl
      · exact .inr (List.mem_cons_of_mem _ h1)
    · show minI (if x < m then x else m) r ≤ m
      split at h2 <;> split <;> omega
    · show minI (if x < m then x else m) r ≤ y
      rcases List.mem_cons.mp hy with e | hy
      · subst e
        split at h2 <;> split <;> omega
      · exact h3 y hy
def hMax : List D → Option PO
  | [.list xs] => match asInts xs with
    | some (x :: r) => some (.val (.int (maxI x r)))
    | _ => none
  | [.int i, .int j] => some (.val (.int (if j > i then j else i)))
  | _ => none
def hMin : List D → Option PO
  | [.list xs] => match asInts xs with
    | some (x :: r) => some (.val (.int (minI x r)))
    | _ => none
  | [.int i, .int j] => some (.val (.int (if j < i then j else i)))
  | _ => none
theorem pr_max {K : PySem.W.Frag} : PrimOk K (fun xs H Q => rMax K xs H Q ∨ ∃ i j, xs = [V.int i, V.int j] ∧ Q (.int (if j > i then j else i)) H) hMax := by
  intro B H vs ds o Q bh hv he hq
  unfold hMax at he
  split at he
  · rename_i xs
    split at he
    · rename_i x r e
      cases he
      obtain ⟨v, rfl, h⟩ := vs1 hv
      obtain ⟨a, ws, rfl, h1, h2⟩ := h.list bh
      have ew := asInts_vs h2 e
      subst ew
      obtain ⟨s1, s2, s3⟩ := maxI_spec r x
      refine .inl ⟨a, x :: r, rfl, h1, by simp, fun m hm hle => ?_⟩
      have em : m = maxI x r := by
        refine Int.le_antisymm ?_ (hle _ ?_)
        · rcases List.mem_cons.mp hm with e | hm
          · rw [e]; exact s2
          · exact s3 m hm
        · rcases s1 with s1 | s1
          · rw [s1]; exact List.mem_cons_self
          · exact List.mem_cons_of_mem _ s1
      rw [em]
      exact hq _ (.int _)
    · cases he
  · cases he
    obtain ⟨v, w, rfl, h, h'⟩ := vs2 hv
    exact .inr ⟨_, _, by rw [h.int, h'.int], hq _ (.int _)⟩
  · cases he
theorem pr_min {K : PySem.W.Frag} : PrimOk K (fun xs H Q => rMin K xs H Q ∨ ∃ i j, xs = [V.int i, V.int j] ∧ Q (.int (if j < i then j else i)) H) hMin := by
  intro B H vs ds o Q bh hv he hq
  unfold hMin at he
  split at he
  · rename_i xs
    split at he
    · rename_i x r e
      cases he
      obtain ⟨v, rfl, h⟩ := vs1 hv
      obtain ⟨a, ws, rfl, h1, h2⟩ := h.list bh
      have ew := asInts_vs h2 e
      subst ew
      obtain ⟨s1, s2, s3⟩ := minI_spec r x
      refine .inl ⟨a, x :: r, rfl, h1, by simp, fun m hm hle => ?_⟩
      have em : m = minI x r := by
        refine Int.le_antisymm (hle _ ?_) ?_
        · rcases s1 with s1 | s1
          · rw [s1]; exact List.mem_cons_self
          · exact List.mem_cons_of_mem _ s1
        · rcases List.mem_cons.mp hm with e | hm
          · rw [e]; exact s2
          · exact s3 m hm
      rw [em]
      exact hq _ (.int _)
    · cases he
  · cases he
    obtain ⟨v, w, rfl, h, h'⟩ := vs2 hv
    exact .inr ⟨_, _, by rw [h.int, h'.int], hq _ (.int _)⟩
  · cases he
/-- bools of a list -/
def asBools : List D → Option (List Bool)
  | [] => some []
  | .bool i :: r => (asBools r).map (i :: ·)
  | _ :: _ => none
theorem asBools_vs {K : PySem.W.Frag} {B : Hp} : ∀ {vs : List V} {ds : List D} {ns : List Bool}, DpAll K B vs ds → asBools ds = some ns → vs = ns.map V.bl
  | _, [], ns, h, e => by
    cases h
    cases e
    rfl
  | _, d :: ds, ns, h, e => by
    cases h with
    | cons h t =>
      unfold asBools at e
      split at e
      · rename_i q
        cases q
      · rename_i i r q
        cases q
        cases er : asBools ds with
        | none =>
          rw [er] at e
          cases e
        | some ms =>
          rw [er] at e
          cases e
          cases h
          rw [asBools_vs t er]
          rfl
      · cases e
def hAll : List D → Option PO
  | [.list xs] => (asBools xs).map fun bs => .val (.bool (bs.all id))
  | _ => none
def hAny : List D → Option PO
  | [.list xs] => (asBools xs).map fun bs => .val (.bool (bs.any id))
  | _ => none
theorem pr_all {K : PySem.W.Frag} : PrimOk K (rAll K) hAll := by
  intro B H vs ds o Q bh hv he hq
  unfold hAll at he
  split at he
  · rename_i xs
    cases e : asBools xs with
    | none =>
      rw [e] at he
      cases he
    | some bs =>
      rw [e] at he
      cases he
      obtain ⟨v, rfl, h⟩ := vs1 hv
      obtain ⟨a, ws, rfl, h1, h2⟩ := h.list bh
      have ew := asBools_vs h2 e
      subst ew
      exact ⟨a, bs, rfl, h1, hq _ (.bl _)⟩
  · cases he
theorem pr_any {K : PySem.W.Frag} : PrimOk K (rAny K) hAny := by
  intro B H vs ds o Q bh hv he hq
  unfold hAny at he
  split at he
  · rename_i xs
    cases e : asBools xs with
    | none =>
      rw [e] at he
      cases he
    | some bs =>
      rw [e] at he
      cases he
      obtain ⟨v, rfl, h⟩ := vs1 hv
      obtain ⟨a, ws, rfl, h1, h2⟩ := h.list bh
      have ew := asBools_vs h2 e
      subst ew
      exact ⟨a, bs, rfl, h1, hq _ (.bl _)⟩
  · cases he
def hSum : List D → Option PO
  | [.list xs] => (asInts xs).map fun bs => .val (.int bs.sum)
  | _ => none
theorem pr_sum {K : PySem.W.Frag} : PrimOk K (rSum K) hSum := by
  intro B H vs ds o Q bh hv he hq
  unfold hSum at he
  split at he
  · rename_i xs
    cases e : asInts xs with
    | none =>
      rw [e] at he
      cases he
    | some bs =>
      rw [e] at he
      cases he
      obtain ⟨v, rfl, h⟩ := vs1 hv
      obtain ⟨a, ws, rfl, h1, h2⟩ := h.list bh
      have ew := asInts_vs h2 e
      subst ew
      exact ⟨a, bs, rfl, h1, hq _ (.int _)⟩
  · cases he
def hList : List D → Option PO
  | [.list xs] => some (.lst xs)
  | [.tuple xs] => some (.lst xs)
  | _ => none
theorem pr_list {K : PySem.W.Frag} : PrimOk K (fun xs H Q => ∃ p ys, xs = [V.ref p] ∧ (SqL K H p ys ∨ SqT K H p ys) ∧ ∀ l, H l = none → Q (.ref l) (upd H l (.lst ys))) hList := by
  intro B H vs ds o Q bh hv he hq
  unfold hList at he
  split at he
  · cases he
    obtain ⟨v, rfl, h⟩ := vs1 hv
    obtain ⟨a, ws, rfl, h1, h2⟩ := h.list bh
    exact ⟨a, ws, rfl, .inl h1, fun l n => hq l ws n h2⟩
  · cases he
    obtain ⟨v, rfl, h⟩ := vs1 hv
    obtain ⟨a, ws, rfl, h1, h2⟩ := h.tup bh
    exact ⟨a, ws, rfl, .inr h1, fun l n => hq l ws n h2⟩
  · cases he
def hTuple : List D → Option PO
  | [.list xs] => some (.tup xs)
  | [.tuple xs] => some (.val (.tuple xs))
  | _ => none
theorem pr_tuple {K : PySem.W.Frag} : PrimOk K (fun xs H Q => ∃ p ys, xs = [V.ref p] ∧ ((SqL K H p ys ∧ ∀ l, H l = none → Q (.ref l) (upd H l (.tup ys))) ∨ (SqT K H p ys ∧ Q (.ref p) H))) hTuple := by
  intro B H vs ds o Q bh hv he hq
  unfold hTuple at he
  split at he
  · cases he
    obtain ⟨v, rfl, h⟩ := vs1 hv
    obtain ⟨a, ws, rfl, h1, h2⟩ := h.list bh
    exact ⟨a, ws, rfl, .inl ⟨h1, fun l n => hq l ws n h2⟩⟩
  · cases he
    obtain ⟨v, rfl, h⟩ := vs1 hv
    have dv := h.dpT
    obtain ⟨a, ws, rfl, h1, h2⟩ := h.tup bh
    exact ⟨a, ws, rfl, .inr ⟨h1, hq _ dv⟩⟩
  · cases he
end DL
end

set_option Elab.async false
set_option linter.all false
set_option maxRecDepth 100000
set_option maxHeartbeats 4000000
noncomputable section
namespace DL
open PySem PySem.Spec PyProof.Rows L2

/-! ### displays -/
def allImm : List RV → Option (List D)
  | [] => some []
  | .imm d :: r => (allImm r).map (d :: ·)
  | _ :: _ => none
theorem allImm_ok {p : Pr} {H0 : Hp} {σ : St} {s : SD} {B H : Hp} : ∀ {vs : List V} {rs : List RV} {ds : List D}, RvsOk p H0 σ s B H vs rs → allImm rs = some ds → DpAll p.K B vs ds
  | _, _, _, .nil, e => by
    cases e
    exact .nil
  | _, _, ds, .cons (r := r) (rs := rs) h t, e => by
    cases r with
    | imm d =>
      unfold allImm at e
      cases er : allImm rs with
      | none =>
        rw [er] at e
        cases e
      | some es =>
        rw [er] at e
        cases e
        exact .cons h (allImm_ok t er)
    | tmp xs => cases e
    | slot i => cases e
    | tmpd ks => cases e
def fTup (f : FA) : FE := fun s => (f s).bind fun rs s1 => match allImm rs with
  | some ds => if ds.length ≤ mx then .ok (.imm (.tuple ds)) s1 else .no
  | none => .no
def fLst (f : FA) : FE := fun s => (f s).bind fun rs s1 => match allImm rs with
  | some ds => if ds.length ≤ mx then .ok (.tmp ds) s1 else .no
  | none => .no
section
variable {X : Cx} {p : Pr} {W : WX} {f g : FE} {fa : FA} {a b c e : Expr} {es : List Expr} {pos : Pos}
theorem de_tup {k} (h : PA X es (tA p W fa)) : PE X (.Tuple es k pos) (tE p W (fTup fa)) := PE.imp (pe_tup h) fun σ H Q h => by
  obtain ⟨B, s, ok, q⟩ := h
  refine ⟨B, s, ok, run_mono (run_bind q) fun rs s1 B1 H1 x1 ok1 k vs hv => ?_⟩
  revert k
  cases ea : allImm rs with
  | none => exact fun k => k.elim
  | some ds =>
    intro k
    simp only at k
    split at k
    · rename_i hz
      have hd := allImm_ok hv ea
      refine ⟨by rw [dps_len hd]; exact mx_le hz, fun q n => ?_⟩
      exact k (upd B1 q (.tup vs)) (upd H1 q (.tup vs)) (.newB ok1.bh n) (ok1.newB n) _ (Dp.tup upd_same (dps_same (same_upd (ok1.bh.free n)) _ _ hd))
    · exact k.elim
theorem de_lst (h : PA X es (tA p W fa)) : PE X (.List es pos) (tE p W (fLst fa)) := PE.imp (pe_lst h) fun σ H Q h => by
  obtain ⟨B, s, ok, q⟩ := h
  refine ⟨B, s, ok, run_mono (run_bind q) fun rs s1 B1 H1 x1 ok1 k vs hv => ?_⟩
  revert k
  cases ea : allImm rs with
  | none => exact fun k => k.elim
  | some ds =>
    intro k
    simp only at k
    split at k
    · rename_i hz
      have hd := allImm_ok hv ea
      refine ⟨by rw [dps_len hd]; exact mx_le hz, fun q n => ?_⟩
      exact k B1 (upd H1 q (.lst vs)) (.newH n) (ok1.newH n mutb_lst) _ ⟨q, vs, rfl, x1.dom _ n, upd_same, ok1.bh.free n, hd, ok1.notOwn n⟩
    · exact k.elim
/-- *e in a display: e a list of whole items -/
def itemsOf : D → Option (List D)
  | .list ds => some ds
  | .tuple ds => some ds
  | _ => none
def faStar (f : FE) (g : FA) : FA := fun s => (f s).bind fun r s1 => match view s1 r with
  | some d => (match itemsOf d with
    | some ds => (g s1).bind fun rs s2 => .ok (ds.map RV.imm ++ rs) s2
    | none => .no)
  | none => .no
theorem rvs_imm {p : Pr} {H0 : Hp} {σ : St} {s : SD} {B H : Hp} : ∀ {vs : List V} {ds : List D} {ws : List V} {rs : List RV}, DpAll p.K B vs ds → RvsOk p H0 σ s B H ws rs → RvsOk p H0 σ s B H (vs ++ ws) (ds.map RV.imm ++ rs)
  | _, _, _, _, .nil, h => h
  | _, _, _, _, .cons a t, h => .cons a (rvs_imm t h)
theorem vw_items {K : PySem.W.Frag} {B H : Hp} {v : V} {d : D} {ds : List D} (bh : Same B H) (h : Vw K B H v d) (e : itemsOf d = some ds) : ∃ a vs, v = .ref a ∧ (SqT K H a vs ∨ SqL K H a vs) ∧ DpAll K B vs ds := by
  unfold itemsOf at e
  split at e
  · cases e
    obtain ⟨a, vs, h1, h2, h3⟩ := h.list bh
    exact ⟨a, vs, h1, .inr h2, h3⟩
  · cases e
    obtain ⟨a, vs, h1, h2, h3⟩ := h.tup bh
    exact ⟨a, vs, h1, .inl h2, h3⟩
  · cases e
theorem da_star {sp : Pos} (ha : PE X e (tE p W f)) (hr : PA X es (tA p W fa)) (eK : p.K = X.K := by rfl) (hs : starEach (.Starred e sp :: es) X.env = (true, eval e X.env) :: starEach es X.env := by rfl) : PA X (.Starred e sp :: es) (tA p W (faStar f fa)) := PA.imp (StX.pa_star ha hr hs) fun σ H Q h => by
  obtain ⟨B, s, ok, q⟩ := h
  refine ⟨B, s, ok, run_mono (run_bind q) fun r s1 B1 H1 x1 ok1 k v hv => ?_⟩
  revert k
  cases ev : view s1 r with
  | none => exact fun k => k.elim
  | some d =>
    cases ei : itemsOf d with
    | none =>
      intro k
      simp only [ei] at k
      exact k.elim
    | some ds =>
      intro k
      simp only [ei] at k
      obtain ⟨q, xs, e1, e2, e3⟩ := vw_items ok1.bh (vw_of hv ok1 ev) ei
      refine ⟨q, xs, e1, by rw [← eK]; exact e2, B1, s1, ok1, run_mono (run_bind k) fun rs s2 B2 H2 x2 ok2 k2 vs hvs => ?_⟩
      exact k2 B2 H2 .refl ok2 _ (rvs_imm (dps_same x2.bb _ _ e3) (hvs.back x1.dom))

/-! ### bools as values -/
def asB : RV → Option Bool
  | .imm (.bool b) => some b
  | _ => none
theorem asB_ok {p : Pr} {H0 : Hp} {σ : St} {s : SD} {B H : Hp} {v : V} {r : RV} {b : Bool} (h : RvOk p H0 σ s B H v r) (e : asB r = some b) : v = .bl b := by
  unfold asB at e
  split at e
  · cases e
    cases h
    rfl
  · cases e
def fAndV (f g : FE) : FE := fun s => (f s).bind fun r s1 => match asB r with
  | some true => g s1
  | some false => .ok (.imm (.bool false)) s1
  | none => .no
def fOrV (f g : FE) : FE := fun s => (f s).bind fun r s1 => match asB r with
  | some true => .ok (.imm (.bool true)) s1
  | some false => g s1
  | none => .no
def fNotV (f : FE) : FE := fun s => (f s).bind fun r s1 => match asB r with
  | some b => .ok (.imm (.bool !b)) s1
  | none => .no
theorem de_one {op} (h : PE X a (tE p W f)) : PE X (.BoolOp op [a] pos) (tE p W f) := pe_one h
theorem tE_of {σ : St} {H H1 B1 : Hp} {s1 : SD} {Q : VK} (x : ∀ b, H1 b = none → H b = none) (ok : StOk p B1 H1 σ s1) (h : run p W σ s1 B1 H1 (g s1) fun r s' B' H' => ∀ v, RvOk p H σ s' B' H' v r → Q v H') : tE p W g σ H1 Q :=
  ⟨B1, s1, ok, run_mono h fun r s' B' H' _ _ k v hv => k v (hv.back x)⟩
theorem de_and {rest : List Expr} (ha : PE X a (tE p W f)) (hb : PE X (.BoolOp .And (b :: rest) pos) (tE p W g)) : PE X (.BoolOp .And (a :: b :: rest) pos) (tE p W (fAndV f g)) := PE.imp (pe_and ha hb) fun σ H Q h => by
  obtain ⟨B, s, ok, q⟩ := h
  refine ⟨B, s, ok, run_mono (run_bind q) fun r s1 B1 H1 x1 ok1 k v hv => ?_⟩
  revert k
  cases ev : asB r with
  | none => exact fun k => k.elim
  | some d =>
    rw [asB_ok hv ev]
    cases d with
    | true => exact fun k => ⟨true, rfl, by rw [if_pos rfl]; exact tE_of x1.dom ok1 k⟩
    | false => exact fun k => ⟨false, rfl, by rw [if_neg Bool.false_ne_true]; exact k B1 H1 .refl ok1 _ (Dp.bl _)⟩
theorem de_or {rest : List Expr} (ha : PE X a (tE p W f)) (hb : PE X (.BoolOp .Or (b :: rest) pos) (tE p W g)) : PE X (.BoolOp .Or (a :: b :: rest) pos) (tE p W (fOrV f g)) := PE.imp (pe_or ha hb) fun σ H Q h => by
  obtain ⟨B, s, ok, q⟩ := h
  refine ⟨B, s, ok, run_mono (run_bind q) fun r s1 B1 H1 x1 ok1 k v hv => ?_⟩
  revert k
  cases ev : asB r with
  | none => exact fun k => k.elim
  | some d =>
    rw [asB_ok hv ev]
    cases d with
    | true => exact fun k => ⟨true, rfl, by rw [if_pos rfl]; exact k B1 H1 .refl ok1 _ (Dp.bl _)⟩
    | false => exact fun k => ⟨false, rfl, by rw [if_neg Bool.false_ne_true]; exact tE_of x1.dom ok1 k⟩
theorem de_not (ha : PE X a (tE p W f)) : PE X (.UnaryOp .Not a pos) (tE p W (fNotV f)) := PE.imp (pe_not ha) fun σ H Q h => by
  obtain ⟨B, s, ok, q⟩ := h
  refine ⟨B, s, ok, run_mono (run_bind q) fun r s1 B1 H1 x1 ok1 k v hv => ?_⟩
  revert k
  cases ev : asB r with
  | none => exact fun k => k.elim
  | some d =>
    rw [asB_ok hv ev]
    exact fun k => ⟨d, rfl, k B1 H1 .refl ok1 _ (Dp.bl _)⟩

/-! ### tests -/
def fTr (f : FE) : FT := fun s => (f s).bind fun r s1 => match asB r with
  | some b => .ok b s1
  | none => .no
theorem tr_of {σ : St} {H : Hp} {Q : Bool → Hp → Prop} (h : tT p W (fTr f) σ H Q) : tE p W f σ H fun x H' => ∃ k, x = .bl k ∧ Q k H' := by
  obtain ⟨B, s, ok, q⟩ := h
  refine ⟨B, s, ok, run_mono (run_bind q) fun r s1 B1 H1 x1 ok1 k v hv => ?_⟩
  revert k
  cases ev : asB r with
  | none => exact fun k => k.elim
  | some d =>
    rw [asB_ok hv ev]
    exact fun k => ⟨d, rfl, k B1 H1 .refl ok1⟩
theorem dt_val (h : PE X e (tE p W f)) (he : ∀ whole, isTrue e X.env whole = (do let v ← whole; standAt e.pos; holding [v] (truthy v)) := by intro _; rfl) : PT X e (tT p W (fTr f)) := PT.imp (pt_val h he) fun σ H Q q => tr_of q
theorem dt_cmp {op : CmpOp} {r : R2} {h : D → D → Option PO} (ho : OpR X (compareOp op) r) (hp : Prim2 p.K r h) (ha : PE X a (tE p W f)) (hb : PE X b (tE p W g)) (hm : behindInMarks op b = false) : PT X (.Compare a [op] [b] pos) (tT p W (fTr (f2 h f g))) :=
  PT.imp (pt_cmpR ho ha hb hm) fun σ H Q q => t2_of hp (tr_of q)
def fAnd (f g : FT) : FT := fun s => (f s).bind fun b s1 => match b with
  | true => g s1
  | false => .ok false s1
def fOr (f g : FT) : FT := fun s => (f s).bind fun b s1 => match b with
  | true => .ok true s1
  | false => g s1
def fNot (f : FT) : FT := fun s => (f s).bind fun b s1 => .ok (!b) s1
variable {u v : FT}
theorem dw_and1 (ha : PT X a (tT p W u)) : PW X (.BoolOp .And [a] pos) (tT p W u) := pw_and1 ha
theorem dw_or1 (ha : PT X a (tT p W u)) : PW X (.BoolOp .Or [a] pos) (tT p W u) := pw_or1 ha
theorem dw_and {rest : List Expr} (ha : PT X a (tT p W u)) (hb : PW X (.BoolOp .And (b :: rest) pos) (tT p W v)) : PW X (.BoolOp .And (a :: b :: rest) pos) (tT p W (fAnd u v)) := PW.imp (pw_and ha hb) fun σ H Q h => by
  obtain ⟨B, s, ok, q⟩ := h
  refine ⟨B, s, ok, run_mono (run_bind q) fun d s1 B1 H1 x1 ok1 k => ?_⟩
  cases d with
  | true => exact if_pos rfl ▸ ⟨B1, s1, ok1, k⟩
  | false =>
    rw [if_neg Bool.false_ne_true]
    exact k B1 H1 .refl ok1
theorem dw_or {rest : List Expr} (ha : PT X a (tT p W u)) (hb : PW X (.BoolOp .Or (b :: rest) pos) (tT p W v)) : PW X (.BoolOp .Or (a :: b :: rest) pos) (tT p W (fOr u v)) := PW.imp (pw_or ha hb) fun σ H Q h => by
  obtain ⟨B, s, ok, q⟩ := h
  refine ⟨B, s, ok, run_mono (run_bind q) fun d s1 B1 H1 x1 ok1 k => ?_⟩
  cases d with
  | true =>
    rw [if_pos rfl]
    exact k B1 H1 .refl ok1
  | false =>
    rw [if_neg Bool.false_ne_true]
    exact ⟨B1, s1, ok1, k⟩
theorem dt_not (ha : PT X a (tT p W u)) : PT X (.UnaryOp .Not a pos) (tT p W (fNot u)) := PT.imp (pt_not ha) fun σ H Q h => by
  obtain ⟨B, s, ok, q⟩ := h
  exact ⟨B, s, ok, run_mono (run_bind q) fun d s1 B1 H1 x1 ok1 k => k B1 H1 .refl ok1⟩
def fIf (u : FT) (f g : FE) : FE := fun s => (u s).bind fun b s1 => match b with
  | true => f s1
  | false => g s1
theorem de_if (hc : PT X c (tT p W u)) (ha : PE X a (tE p W f)) (hb : PE X b (tE p W g)) : PE X (.IfExp c a b pos) (tE p W (fIf u f g)) := PE.imp (pe_ifExp hc ha hb) fun σ H Q h => by
  obtain ⟨B, s, ok, q⟩ := h
  refine ⟨B, s, ok, run_mono (run_bind q) fun d s1 B1 H1 x1 ok1 k => ?_⟩
  cases d with
  | true =>
    rw [if_pos rfl]
    exact tE_of x1.dom ok1 k
  | false =>
    rw [if_neg Bool.false_ne_true]
    exact tE_of x1.dom ok1 k
end

/-! ### chains of comparisons -/
structure CH (X : Cx) (ops : List CmpOp) (es : List Expr) (t : V → St → Hp → VK → Prop) : Prop where
  run : ∀ (pos : Pos) (pins : List (Addr × Obj)) (s : Shared) (σ : St) (H : Hp) (x : V) (v : Value) (Q : VK), Inv X pins σ H s → RelV x v → t x σ H Q → wpAny (model X.prog X.w) X.A (compareChain pos v ops (evalEach es X.env)) (EP X pins σ Q) X.xe s
structure CT (X : Cx) (ops : List CmpOp) (es : List Expr) (t : V → St → Hp → VK → Prop) : Prop where
  run : ∀ (pos : Pos) (pins : List (Addr × Obj)) (s : Shared) (σ : St) (H : Hp) (x : V) (v : Value) (Q : Bool → Hp → Prop), Inv X pins σ H s → RelV x v → t x σ H (fun y H' => ∃ k, y = .bl k ∧ Q k H') → wpAny (model X.prog X.w) X.A (testChain pos v ops (evalEach es X.env)) (TP X pins σ Q) X.xe s
abbrev FC := RV → SD → R RV
def tC (p : Pr) (W : WX) (f : FC) : V → St → Hp → VK → Prop := fun x σ H Q => ∃ H0 B s r, StOk p B H σ s ∧ (∀ b, H b = none → H0 b = none) ∧ RvOk p H0 σ s B H x r ∧ run p W σ s B H (f r s) fun r' s' B' H' => ∀ v, RvOk p H0 σ s' B' H' v r' → Q v H'
def fcLast (h : D → D → Option PO) (g : FE) : FC := fun r s => (g s).bind fun r2 s2 => match view s2 r, view s2 r2 with
  | some d, some e => oR s2 (h d e)
  | _, _ => .no
def fcLink (h : D → D → Option PO) (g : FE) (k : FC) : FC := fun r s => (g s).bind fun r2 s2 => match view s2 r, view s2 r2 with
  | some d, some e => (match h d e with
    | some (.val (.bool true)) => k r2 s2
    | some (.val (.bool false)) => .ok (.imm (.bool false)) s2
    | _ => .no)
  | _, _ => .no
def fChain (f : FE) (k : FC) : FE := fun s => (f s).bind fun r s1 => k r s1
section
variable {X : Cx} {p : Pr} {W : WX} {f g : FE} {k : FC} {a b c e : Expr} {es : List Expr} {pos : Pos} {op op' : CmpOp} {ops : List CmpOp} {r : R2} {h : D → D → Option PO}
theorem last_of {σ : St} {H : Hp} {Q : VK} {x : V} (hp : Prim2 p.K r h) (q : tC p W (fcLast h g) x σ H Q) : tE p W g σ H fun y H1 => r x y H1 Q := by
  obtain ⟨H0, B, s, r1, ok, d0, hv, q⟩ := q
  refine ⟨B, s, ok, run_mono (run_bind q) fun r2 s2 B2 H2 x2 ok2 k2 w hw => ?_⟩
  revert k2
  cases e1 : view s2 r1 with
  | none => exact fun k => k.elim
  | some d =>
    cases e2 : view s2 r2 with
    | none => exact fun k => k.elim
    | some e =>
      cases eh : h d e with
      | none =>
        intro k
        simp only [eh] at k
        exact k.elim
      | some o =>
        intro k
        simp only [eh] at k
        exact hp B2 H2 x w d e o Q ok2.bh (vw_of (hv.later x2) ok2 e1) (vw_of hw ok2 e2) eh (po_post ok2 (fun b z => d0 b (x2.dom b z)) k)
theorem link_of {σ : St} {H : Hp} {Q : VK} {x : V} (hp : Prim2 p.K r h) (q : tC p W (fcLink h g k) x σ H Q) : tE p W g σ H fun y H1 => r x y H1 fun z H2 => ∃ b, z = .bl b ∧ if b = true then tC p W k y σ H2 Q else Q (.bl false) H2 := by
  obtain ⟨H0, B, s, r1, ok, d0, hv, q⟩ := q
  refine ⟨B, s, ok, run_mono (run_bind q) fun r2 s2 B2 H2 x2 ok2 k2 w hw => ?_⟩
  revert k2
  cases e1 : view s2 r1 with
  | none => exact fun k => k.elim
  | some d =>
    cases e2 : view s2 r2 with
    | none => exact fun k => k.elim
    | some e =>
      simp only
      split
      · rename_i eh
        intro k
        refine hp B2 H2 x w d e _ _ ok2.bh (vw_of (hv.later x2) ok2 e1) (vw_of hw ok2 e2) eh fun z hz => ?_
        cases hz
        refine ⟨true, rfl, ?_⟩
        rw [if_pos rfl]
        exact ⟨H0, B2, s2, r2, ok2, fun b z => d0 b (x2.dom b z), hw.back d0, k⟩
      · rename_i eh
        intro k
        refine hp B2 H2 x w d e _ _ ok2.bh (vw_of (hv.later x2) ok2 e1) (vw_of hw ok2 e2) eh fun z hz => ?_
        cases hz
        refine ⟨false, rfl, ?_⟩
        rw [if_neg Bool.false_ne_true]
        exact k B2 H2 .refl ok2 _ (Dp.bl _)
      · exact fun k => k.elim
theorem ch_last (ho : OpR X (compareOp op) r) (hp : Prim2 p.K r h) (hb : PE X b (tE p W g)) : CH X [op] [b] (tC p W (fcLast h g)) := by
  refine ⟨fun pos pins s σ H x v Q I rx q => ?_⟩
  exact chain_last (thn (hb.run pins s σ H _ I (last_of hp q)) fun u s2 ⟨y, H2, I2, r2, q2⟩ => ho pins s2 σ H2 x y v u Q I2 rx r2 q2)
theorem ch_link (ho : OpR X (compareOp op) r) (hp : Prim2 p.K r h) (hb : PE X b (tE p W g)) (hk : CH X (op' :: ops) (c :: es) (tC p W k)) : CH X (op :: op' :: ops) (b :: c :: es) (tC p W (fcLink h g k)) := by
  refine ⟨fun pos pins s σ H x v Q I rx q => ?_⟩
  refine chain_link (thn (hb.run pins s σ H _ I (link_of hp q)) fun u s2 ⟨y, H2, I2, r2, q2⟩ => thn (ho pins s2 σ H2 x y v u _ I2 rx r2 q2) fun d s3 ⟨z, H3, I3, r3, b', e, q3⟩ => ?_)
  subst e
  cases r3
  refine wpAny_truthy_bool ?_
  cases b' with
  | false => exact ite_ff ⟨.bl false, H3, I3, rfl, q3⟩
  | true => exact ite_tt (hk.run pos pins s3 σ H3 y u Q I3 r2 q3)
theorem ct_last (ho : OpR X (compareOp op) r) (hp : Prim2 p.K r h) (hb : PE X b (tE p W g)) : CT X [op] [b] (tC p W (fcLast h g)) := by
  refine ⟨fun pos pins s σ H x v Q I rx q => ?_⟩
  refine test_last (thn (hb.run pins s σ H _ I (last_of hp q)) fun u s2 ⟨y, H2, I2, r2, q2⟩ => thn (ho pins s2 σ H2 x y v u _ I2 rx r2 q2) fun d s3 ⟨z, H3, I3, r3, b', e, q3⟩ => ?_)
  subst e
  cases r3
  exact wpAny_truthy_bool ⟨H3, I3, q3⟩
theorem ct_link (ho : OpR X (compareOp op) r) (hp : Prim2 p.K r h) (hb : PE X b (tE p W g)) (hk : CT X (op' :: ops) (c :: es) (tC p W k)) : CT X (op :: op' :: ops) (b :: c :: es) (tC p W (fcLink h g k)) := by
  refine ⟨fun pos pins s σ H x v Q I rx q => ?_⟩
  refine test_link (thn (hb.run pins s σ H _ I (link_of hp q)) fun u s2 ⟨y, H2, I2, r2, q2⟩ => thn (ho pins s2 σ H2 x y v u _ I2 rx r2 q2) fun d s3 ⟨z, H3, I3, r3, b', e, q3⟩ => ?_)
  subst e
  cases r3
  refine wpAny_truthy_bool ?_
  cases b' with
  | false =>
    obtain ⟨k', e', q'⟩ := q3
    cases e'
    exact ite_ff ⟨H3, I3, q'⟩
  | true => exact ite_tt (hk.run pos pins s3 σ H3 y u Q I3 r2 q3)
theorem chain_of {σ : St} {H : Hp} {Q : VK} (q : tE p W (fChain f k) σ H Q) : tE p W f σ H fun x H1 => tC p W k x σ H1 Q := by
  obtain ⟨B, s, ok, q⟩ := q
  exact ⟨B, s, ok, run_mono (run_bind q) fun r s1 B1 H1 x1 ok1 k1 v hv => ⟨H, B1, s1, r, ok1, x1.dom, hv, k1⟩⟩
theorem de_chain (ha : PE X a (tE p W f)) (hk : CH X (op :: op' :: ops) (b :: c :: es) (tC p W k)) (hm : lastMarks (op :: op' :: ops) (b :: c :: es) = false := by with_unfolding_all rfl) : PE X (.Compare a (op :: op' :: ops) (b :: c :: es) pos) (tE p W (fChain f k)) := by
  refine ⟨fun pins s σ H Q I q => ?_⟩
  exact Compare_chain (thn (ha.run pins s σ H _ I (chain_of q)) fun v s1 ⟨x, H1, I1, r1, q1⟩ => hk.run pos pins s1 σ H1 x v Q I1 r1 q1) hm
theorem dt_chain (ha : PE X a (tE p W f)) (hk : CT X (op :: op' :: ops) (b :: c :: es) (tC p W k)) (hm : lastMarks (op :: op' :: ops) (b :: c :: es) = false := by with_unfolding_all rfl) : PT X (.Compare a (op :: op' :: ops) (b :: c :: es) pos) (tT p W (fTr (fChain f k))) := by
  refine ⟨fun pins s σ H Q I q => ?_⟩
  exact isTrue_chain (thn (ha.run pins s σ H _ I (chain_of (tr_of q))) fun v s1 ⟨x, H1, I1, r1, q1⟩ => hk.run pos pins s1 σ H1 x v Q I1 r1 q1) hm
end

/-! ### slices -/
abbrev FO := SD → R (Option Int)
def tO (p : Pr) (W : WX) (f : FO) : TO := fun σ H Q => ∃ B s, StOk p B H σ s ∧ run p W σ s B H (f s) fun i s' B' H' => Q i H'
def foNone : FO := fun s => .ok none s
def foSome (f : FE) : FO := fun s => (f s).bind fun r s1 => match r with
  | .imm (.int i) => .ok (some i) s1
  | _ => .no
def cutD (xs : List D) (lo hi : Option Int) : List D := (xs.drop (HT.sIx xs.length 0 lo)).take (HT.sIx xs.length xs.length hi - HT.sIx xs.length 0 lo)
def hSl : D → Option Int → Option Int → Option L2.V → Option PO
  | .list xs, lo, hi, _ => some (.lst (cutD xs lo hi))
  | .tuple xs, lo, hi, _ => if HT.sIx xs.length 0 lo = 0 ∧ HT.sIx xs.length xs.length hi = xs.length then some (.val (.tuple xs)) else some (.tup (cutD xs lo hi))
  | _, _, _, _ => none
def fSl (f : FE) (lo hi : FO) : FE := fun s => (f s).bind fun r s1 => (lo s1).bind fun l s2 => (hi s2).bind fun u s3 => match view s3 r with
  | some d => oR s3 (hSl d l u none)
  | none => .no
theorem dps_cut {K : PySem.W.Frag} {B : Hp} {vs : List V} {ds : List D} (lo hi : Option Int) (h : DpAll K B vs ds) : DpAll K B (cutV vs lo hi) (cutD ds lo hi) := by
  unfold cutV cutD
  rw [dps_len h]
  exact dps_take _ (dps_drop _ h)
section
variable {X : Cx} {p : Pr} {W : WX} {f : FE} {lo hi : FO} {e : Expr} {el eu : Option Expr} {pos p2 : Pos}
structure POd (X : Cx) (e : Option Expr) (t : TO) : Prop where
  h : L2.PO X e t
theorem do_none : POd X none (tO p W foNone) := ⟨⟨fun pins s σ H Q I h => po_none.run pins s σ H Q I (by
  obtain ⟨B, s, ok, q⟩ := h
  exact q B H .refl ok)⟩⟩
theorem do_some (ha : PE X e (tE p W f)) : POd X (some e) (tO p W (foSome f)) := ⟨⟨fun pins s σ H Q I h => (po_some ha).run pins s σ H Q I (by
  obtain ⟨B, s, ok, q⟩ := h
  refine ⟨B, s, ok, run_mono (run_bind q) fun r s1 B1 H1 x1 ok1 k v hv => ?_⟩
  revert k
  split
  · cases hv
    exact fun k => ⟨_, rfl, k B1 H1 .refl ok1⟩
  · exact fun k => k.elim)⟩⟩
def rSlD (K : PySem.W.Frag) : V → Option Int → Option Int → Hp → VK → Prop := fun x lo hi H Q => rSlL K x lo hi H Q ∨ rSlA K x lo hi H Q
theorem de_slice (ha : PE X e (tE p W f)) (hl : POd X el (tO p W lo)) (hu : POd X eu (tO p W hi)) (eK : p.K = X.K := by rfl) : PE X (.Subscript e (.Slice el eu none p2) pos) (tE p W (fSl f lo hi)) :=
  PE.imp (pe_slice (r := rSlD X.K) (SlR.or sl_list sl_tupA) ha hl.h hu.h) fun σ H Q h => by
  obtain ⟨B, s, ok, q⟩ := h
  refine ⟨B, s, ok, run_mono (run_bind q) fun r s1 B1 H1 x1 ok1 k v hv => ⟨B1, s1, ok1, run_mono (run_bind k) fun l s2 B2 H2 x2 ok2 k => ⟨B2, s2, ok2, run_mono (run_bind k) fun u s3 B3 H3 x3 ok3 k => ?_⟩⟩⟩
  revert k
  cases ev : view s3 r with
  | none => exact fun k => k.elim
  | some d =>
    have hw := vw_of ((hv.later x2).later x3) ok3 ev
    have d0 : ∀ b, H3 b = none → H b = none := fun b z => x1.dom b (x2.dom b (x3.dom b z))
    rw [← eK]
    cases eh : hSl d l u none with
    | none =>
      intro k
      simp only [eh] at k
      exact k.elim
    | some o =>
      intro k
      simp only [eh] at k
      have po := po_post ok3 d0 k
      unfold hSl at eh
      split at eh
      · cases eh
        obtain ⟨a, vs, rfl, h1, h2⟩ := hw.list ok3.bh
        exact .inl ⟨a, vs, rfl, h1, fun q n => po q _ n (dps_cut _ _ h2)⟩
      · have dv := hw.dpT
        obtain ⟨a, vs, rfl, h1, h2⟩ := hw.tup ok3.bh
        split at eh
        · rename_i c
          cases eh
          exact .inr ⟨a, vs, rfl, h1, fun _ => po _ dv, fun z => absurd (by rw [dps_len h2]; exact c) z⟩
        · rename_i c
          cases eh
          exact .inr ⟨a, vs, rfl, h1, fun z => absurd (by rw [dps_len h2] at z; exact z) c, fun _ q n => po q _ n (dps_cut _ _ h2)⟩
      · cases eh
end
end DL
end

set_option Elab.async false
set_option linter.all false
set_option maxRecDepth 100000
set_option maxHeartbeats 4000000
noncomputable section
namespace DL
open PySem PySem.Spec PyProof.Rows L2

/-! ### what is walked -/
/-- the heap grows by new data alone -/
structure Grow (B H B' H' : Hp) : Prop where
  bb : Same B B'
  bh : Same B' H'
  hh : Same H H'
  new : ∀ b, H b ≠ none → B b = none → B' b = none
  tb : ∀ b xs, H' b = some (.tup xs) → H b = some (.tup xs) ∨ B' b = some (.tup xs)
theorem Grow.refl {B H : Hp} (h : Same B H) : Grow B H B H := ⟨Same.refl _, h, Same.refl _, fun _ _ e => e, fun _ _ h => .inl h⟩
theorem Grow.newB {B H : Hp} {q : Addr} {o : HO} (bh : Same B H) (n : H q = none) : Grow B H (upd B q o) (upd H q o) :=
  ⟨same_upd (bh.free n), same_upd2 bh, same_upd n, fun b h e => by
    rw [upd_ne (fun z => h (by rw [z]; exact n))]
    exact e, fun b xs h => by
    by_cases w : b = q
    · rw [w] at h ⊢
      rw [upd_same] at h ⊢
      exact .inr h
    · rw [upd_ne w] at h
      exact .inl h⟩
theorem Grow.ext {B H B' H' : Hp} (g : Grow B H B' H') {σ : St} {s : SD} : Ext σ s s B H B' H' := ⟨g.bb, fun b o h _ => g.hh b o h, fun b h => g.hh.free h, g.new, fun _ _ h => h⟩
theorem StOk.grows {p : Pr} {B H B' H' : Hp} {σ : St} {s : SD} (ok : StOk p B H σ s) (g : Grow B H B' H') : StOk p B' H' σ s := ok.grow g.bb g.bh g.hh g.new g.tb
/-- an iterator walks these items, wherever the heap has grown -/
def ItD (K : PySem.W.Frag) (B : Hp) (J : It) (ds : List D) : Prop := ∀ B2 H2, Same B B2 → Same B2 H2 → (∀ b xs, H2 b = some (.tup xs) → B2 b = some (.tup xs)) →
  J.stop ds.length H2 ∧ ∀ (i : Nat) d, ds[i]? = some d → J.go i H2 ∧ ∀ x H3, J.yld i H2 x H3 → ∃ B3, Grow B2 H2 B3 H3 ∧ Dp K B3 x d
abbrev FI := SD → R (List D)
def tI (p : Pr) (W : WX) (f : FI) : TI := fun σ H Q => ∃ B s, StOk p B H σ s ∧ run p W σ s B H (f s) fun ds s' B' H' => ∀ J, ItD p.K B' J ds → Q J H'
theorem PI.imp {X : Cx} {tg e : Expr} {t t' : TI} (h : PI X tg e t) (f : ∀ σ H Q, t' σ H Q → t σ H Q) : PI X tg e t' := ⟨fun pins s σ H Q I q => h.run pins s σ H Q I (f _ _ _ q)⟩
theorem PI.or {X : Cx} {tg e : Expr} {t t' : TI} (h : PI X tg e t) (h' : PI X tg e t') : PI X tg e (fun σ H Q => t σ H Q ∨ t' σ H Q) := ⟨fun pins s σ H Q I q => by
  rcases q with q | q
  · exact h.run pins s σ H Q I q
  · exact h'.run pins s σ H Q I q⟩
/-- over a list or a tuple that stands still -/
def fIt (f : FE) : FI := fun s => (f s).bind fun r s1 => match r with
  | .imm (.list ds) => .ok ds s1
  | .imm (.tuple ds) => .ok ds s1
  | _ => .no
theorem itd_list {K : PySem.W.Frag} {B : Hp} {a : Addr} {vs : List V} {ds : List D} (h : SqL K B a vs) (hd : DpAll K B vs ds) : ItD K B (Itl K a) ds := fun B2 H2 b1 b2 tb => by
  have hs : SqL K H2 a vs := sqL_same b2 (sqL_same b1 h)
  refine ⟨⟨vs, hs, Nat.le_of_eq (dps_len hd)⟩, fun i d e => ?_⟩
  obtain ⟨v, hv, hx⟩ := dps_get hd e
  refine ⟨⟨vs, v, hs, hv⟩, fun x H3 y => ?_⟩
  obtain ⟨rfl, y⟩ := y
  have ex : v = x := Option.some.inj (hv.symm.trans (y vs hs))
  subst ex
  exact ⟨B2, .refl b2, dp_same b1 _ _ hx⟩
theorem itd_tup {K : PySem.W.Frag} {B : Hp} {a : Addr} {vs : List V} {ds : List D} (h : SqT K B a vs) (hd : DpAll K B vs ds) : ItD K B (Itt K a) ds := fun B2 H2 b1 b2 tb => by
  have hs : SqT K H2 a vs := sqT_same b2 (sqT_same b1 h)
  refine ⟨⟨vs, hs, Nat.le_of_eq (dps_len hd)⟩, fun i d e => ?_⟩
  obtain ⟨v, hv, hx⟩ := dps_get hd e
  refine ⟨⟨vs, v, hs, hv⟩, fun x H3 y => ?_⟩
  obtain ⟨rfl, y⟩ := y
  have ex : v = x := Option.some.inj (hv.symm.trans (y vs hs))
  subst ex
  exact ⟨B2, .refl b2, dp_same b1 _ _ hx⟩
/-- the ints of a range -/
def rgFrom (lo : Int) : Nat → List D
  | 0 => []
  | n + 1 => .int lo :: rgFrom (lo + 1) n
theorem rgFrom_len : ∀ (n : Nat) (lo : Int), (rgFrom lo n).length = n
  | 0, _ => rfl
  | n + 1, lo => congrArg (· + 1) (rgFrom_len n (lo + 1))
theorem rgFrom_get : ∀ (n : Nat) (lo : Int) (i : Nat) (d : D), (rgFrom lo n)[i]? = some d → d = .int (lo + i)
  | 0, _, _, _, h => by simp [rgFrom] at h
  | n + 1, lo, 0, d, h => by
    have e := Option.some.inj h
    rw [← e]
    simp
  | n + 1, lo, i + 1, d, h => by
    rw [rgFrom_get n (lo + 1) i d h]
    congr 1
    omega
theorem itd_rng {K : PySem.W.Frag} {B : Hp} (lo : Int) (n : Nat) : ItD K B (Itr lo n) (rgFrom lo n) := fun B2 H2 b1 b2 tb => by
  refine ⟨by rw [rgFrom_len]; exact Nat.le_refl _, fun i d e => ?_⟩
  have hi := (List.getElem?_eq_some_iff.mp e).1
  rw [rgFrom_len] at hi
  refine ⟨hi, fun x H3 y => ?_⟩
  obtain ⟨rfl, rfl⟩ := y
  rw [rgFrom_get n lo i d e]
  exact ⟨B2, .refl b2, .int _⟩
def bnd62 (i : Int) : Bool := decide (-4611686018427387904 ≤ i) && decide (i < 4611686018427387904)
theorem p62 : (2 : Int) ^ 62 = 4611686018427387904 := by decide
def fRng1 (f : FA) : FI := fun s => (f s).bind fun rs s1 => match rs with
  | [.imm (.int j)] => if bnd62 j then .ok (rgFrom 0 j.toNat) s1 else .no
  | _ => .no
def fRng2 (f : FA) : FI := fun s => (f s).bind fun rs s1 => match rs with
  | [.imm (.int i), .imm (.int j)] => if bnd62 i && bnd62 j then .ok (rgFrom i (j - i).toNat) s1 else .no
  | _ => .no
section
variable {X : Cx} {p : Pr} {W : WX} {f : FE} {fa : FA} {tg a b e : Expr} {pos p' : Pos}
theorem di_it (ha : PE X e (tE p W f)) (eK : p.K = X.K := by rfl) : PI X tg e (tI p W (fIt f)) := PI.imp (PI.or (pi_list ha) (pi_tup ha)) fun σ H Q h => by
  obtain ⟨B, s, ok, q⟩ := h
  unfold fIt at q
  cases ef : f s with
  | no =>
    rw [ef] at q
    exact q.elim
  | ex e' s' => exact .inl ⟨B, s, ok, by rw [ef] at q ⊢; exact q⟩
  | ok r1 s1 =>
    rw [ef] at q
    simp only [R.bind] at q
    split at q
    · rename_i ds
      refine .inl ⟨B, s, ok, ?_⟩
      rw [ef]
      intro B1 H1 x1 ok1 v hv
      cases hv with
      | lst hs hd => exact ⟨_, rfl, ⟨_, by rw [← eK]; exact sqL_same ok1.bh hs⟩, q B1 H1 x1 ok1 _ (by rw [← eK]; exact itd_list hs hd)⟩
    · rename_i ds
      refine .inr ⟨B, s, ok, ?_⟩
      rw [ef]
      intro B1 H1 x1 ok1 v hv
      cases hv with
      | tup hs hd => exact ⟨_, rfl, ⟨_, by rw [← eK]; exact sqT_same ok1.bh (SqT.of hs)⟩, q B1 H1 x1 ok1 _ (by rw [← eK]; exact itd_tup (SqT.of hs) hd)⟩
    · exact q.elim
theorem bnd62_ok {i : Int} (h : bnd62 i = true) : -(2 ^ 62) ≤ i ∧ i < 2 ^ 62 := by
  rw [p62]
  unfold bnd62 at h
  rw [Bool.and_eq_true, decide_eq_true_eq, decide_eq_true_eq] at h
  exact h
theorem di_rng1 (hg : Gl X "range") (hm : X.mg "range" = none) (ha : PA X [a] (tA p W fa)) (hs : starEach [a] X.env = [(false, eval a X.env)] := by rfl) : PI X tg (.Call (.Name "range" p') [a] [] pos) (tI p W (fRng1 fa)) := PI.imp (pi_range1 hg hm ha hs) fun σ H Q h => by
  obtain ⟨B, s, ok, q⟩ := h
  refine ⟨B, s, ok, run_mono (run_bind q) fun rs s1 B1 H1 x1 ok1 k vs hv => ?_⟩
  revert k
  split
  · intro k
    split at k
    · rename_i j hb
      cases hv with
      | cons h t =>
        cases t
        cases h
        obtain ⟨h1, h2⟩ := bnd62_ok hb
        exact ⟨_, rfl, h1, h2, k B1 H1 .refl ok1 _ (itd_rng _ _)⟩
    · exact k.elim
  · exact fun k => k.elim
theorem di_rng2 (hg : Gl X "range") (hm : X.mg "range" = none) (ha : PA X [a, b] (tA p W fa)) (hs : starEach [a, b] X.env = [(false, eval a X.env), (false, eval b X.env)] := by rfl) (hs2 : starEach [b] X.env = [(false, eval b X.env)] := by rfl) :
    PI X tg (.Call (.Name "range" p') [a, b] [] pos) (tI p W (fRng2 fa)) := PI.imp (pi_range2 hg hm ha hs hs2) fun σ H Q h => by
  obtain ⟨B, s, ok, q⟩ := h
  refine ⟨B, s, ok, run_mono (run_bind q) fun rs s1 B1 H1 x1 ok1 k vs hv => ?_⟩
  revert k
  split
  · intro k
    split at k
    · rename_i i j hb
      rw [Bool.and_eq_true] at hb
      cases hv with
      | cons h t =>
        cases t with
        | cons h' t' =>
          cases t'
          cases h
          cases h'
          obtain ⟨h1, h2⟩ := bnd62_ok hb.1
          obtain ⟨h3, h4⟩ := bnd62_ok hb.2
          exact ⟨_, _, rfl, ⟨h1, h2, h3, h4⟩, k B1 H1 .refl ok1 _ (itd_rng _ _)⟩
    · exact k.elim
  · exact fun k => k.elim
end

/-! ### targets: slots that take data -/
def setV1 (σ : St) (i : Nat) (v : V) : St := σ.set i (some v)
def setsV : St → List Nat → List V → St
  | σ, i :: is, v :: vs => setsV (σ.set i (some v)) is vs
  | σ, _, _ => σ
def setD (s : SD) (i : Nat) (d : DV) : Option SD := match getS s i with
  | some (some (.lent _)) => none
  | some _ => some (setS s i (some d))
  | none => none
def setsD : SD → List Nat → List D → Option SD
  | s, [], [] => some s
  | s, i :: is, d :: ds => (setD s i (.imm d)).bind fun s' => setsD s' is ds
  | _, _, _ => none
theorem owns_set {σ : St} {s : SD} {i j : Nat} {x : Option V} {d : D} {a : Addr} (h : Owns (σ.set i x) (s.set i (some (.imm d))) j a) : Owns σ s j a := by
  obtain ⟨h1, x', h2, hm⟩ := h
  by_cases e : i = j
  · subst e
    have hi : i < s.length := by
      have := (List.getElem?_eq_some_iff.mp h2).1
      simpa using this
    rw [List.getElem?_set_self hi] at h2
    cases h2
    cases hm
  · rw [List.getElem?_set_ne e] at h1 h2
    exact ⟨h1, x', h2, hm⟩
theorem setD_imm {p : Pr} {B H : Hp} {σ : St} {s s' : SD} {i : Nat} {v : V} {d : D} (ok : StOk p B H σ s) (hv : Dp p.K B v d) (e : setD s i (.imm d) = some s') : StOk p B H (σ.set i (some v)) s' := by
  unfold setD at e
  rw [getS_eq] at e
  simp only [setS_eq] at e
  split at e
  · cases e
  · rename_i dv nl q
    cases e
    have hl : p.L i = none := by
      have hi := (List.getElem?_eq_some_iff.mp q).1
      have hσ : i < σ.length := by rw [ok.len]; exact hi
      have z := ok.slot i dv _ q (List.getElem?_eq_getElem hσ)
      match dv, nl, z with
      | none, _, z => exact z
      | some (.imm _), _, z => exact z.1
      | some (.own _), _, z => exact z.1
      | some (.lent xs), nl, _ => exact (nl xs rfl).elim
      | some .exc, _, z => exact z.1
      | some (.dct _), _, z => exact z.1
    refine ⟨by rw [List.length_set, List.length_set]; exact ok.len, fun j dj vj e1 e2 => ?_, fun j k a o1 o2 => ok.sep j k a (owns_set o1) (owns_set o2), ok.b0, ok.bh, ok.fr, ok.dom, ok.new, ok.tb⟩
    by_cases ej : i = j
    · subst ej
      rw [List.getElem?_set_self (by have := (List.getElem?_eq_some_iff.mp e1).1; simpa using this)] at e1
      rw [List.getElem?_set_self (by have := (List.getElem?_eq_some_iff.mp e2).1; simpa using this)] at e2
      cases e1
      cases e2
      exact ⟨hl, v, rfl, hv⟩
    · rw [List.getElem?_set_ne ej] at e1 e2
      exact ok.slot j dj vj e1 e2
  · cases e
theorem setsD_ok {p : Pr} {B H : Hp} : ∀ {is : List Nat} {σ : St} {s s' : SD} {vs : List V} {ds : List D}, StOk p B H σ s → DpAll p.K B vs ds → setsD s is ds = some s' → StOk p B H (setsV σ is vs) s'
  | [], σ, s, s', vs, ds, ok, h, e => by
    cases h with
    | nil =>
      cases e
      exact ok
    | cons _ _ => cases e
  | i :: is, σ, s, s', vs, ds, ok, h, e => by
    cases h with
    | nil => cases e
    | cons h t =>
      unfold setsD at e
      rename_i v vs' d ds'
      cases q : setD s i (.imm d) with
      | none =>
        rw [q] at e
        cases e
      | some s1 =>
        rw [q] at e
        show StOk p B H (setsV (σ.set i (some v)) is vs') s'
        exact setsD_ok (setD_imm ok h q) t e
theorem wipe_set {σ : St} {i : Nat} {x : Option V} : ∀ {ws : List Nat}, i ∈ ws → wipe (σ.set i x) ws = wipe σ ws
  | [], h => nomatch h
  | w :: ws, h => by
    unfold wipe
    by_cases e : i = w
    · subst e
      by_cases m : i ∈ ws
      · rw [wipe_set m]
      · clear h
        induction ws with
        | nil =>
          show (σ.set i x).set i none = σ.set i none
          rw [List.set_set]
        | cons y ys ih =>
          have hy : i ≠ y := fun z => m (by rw [z]; exact List.mem_cons_self)
          unfold wipe
          rw [List.set_comm _ _ hy.symm, ih (fun z => m (List.mem_cons_of_mem _ z)), List.set_comm _ _ hy]
    · have m : i ∈ ws := by
        rcases List.mem_cons.mp h with z | z
        · exact absurd z e
        · exact z
      rw [wipe_set m]
theorem wipe_sets : ∀ {is : List Nat} {σ : St} {vs : List V} {ws : List Nat}, (∀ i ∈ is, i ∈ ws) → wipe (setsV σ is vs) ws = wipe σ ws
  | [], _, _, _, _ => rfl
  | i :: is, σ, [], ws, h => rfl
  | i :: is, σ, v :: vs, ws, h => by
    show wipe (setsV (σ.set i (some v)) is vs) ws = _
    rw [wipe_sets fun j hj => h j (List.mem_cons_of_mem _ hj), wipe_set (h i List.mem_cons_self)]
/-- a target: it takes data to slots -/
structure TqD (p : Pr) (t : TG) (is : List Nat) (g : D → SD → Option SD) : Prop where
  run : ∀ (B H : Hp) (σ : St) (s s' : SD) (v : V) (d : D) (Q : St → Hp → Prop), StOk p B H σ s → Dp p.K B v d → g d s = some s' → (∀ vs, vs.length = is.length → StOk p B H (setsV σ is vs) s' → Q (setsV σ is vs) H) → t v σ H Q
  own : ∀ (σ : St) (s s' : SD) (vs : List V) (d : D) (j : Nat) (a : Addr), vs.length = is.length → g d s = some s' → Owns (setsV σ is vs) s' j a → Owns σ s j a
theorem owns_setD {σ : St} {s s' : SD} {i j : Nat} {v : V} {d : D} {a : Addr} (e : setD s i (.imm d) = some s') (h : Owns (σ.set i (some v)) s' j a) : Owns σ s j a := by
  unfold setD at e
  rw [getS_eq] at e
  simp only [setS_eq] at e
  split at e
  · cases e
  · cases e
    exact owns_set h
  · cases e
theorem owns_setsD : ∀ {is : List Nat} {σ : St} {s s' : SD} {vs : List V} {ds : List D} {j : Nat} {a : Addr}, vs.length = is.length → setsD s is ds = some s' → Owns (setsV σ is vs) s' j a → Owns σ s j a
  | [], _, _, _, _, [], _, _, _, e, h => by
    cases e
    exact h
  | [], _, _, _, _, _ :: _, _, _, _, e, _ => by cases e
  | i :: is, _, _, _, _, [], _, _, _, e, _ => by cases e
  | i :: is, σ, s, s', [], d :: ds, j, a, hl, e, h => by cases hl
  | i :: is, σ, s, s', v :: vs, d :: ds, j, a, hl, e, h => by
    unfold setsD at e
    cases q : setD s i (.imm d) with
    | none =>
      rw [q] at e
      cases e
    | some s1 =>
      rw [q] at e
      exact owns_setD q (owns_setsD (by simpa using hl) e h)
def gOne (i : Nat) : D → SD → Option SD := fun d s => setD s i (.imm d)
def gMany (is : List Nat) : D → SD → Option SD := fun d s => match d with
  | .tuple ds => setsD s is ds
  | _ => none
structure TqsD (t : TGs) (is : List Nat) (n : Nat) : Prop where
  len : n = is.length
  run : ∀ (σ : St) (H : Hp) (vs : List V) (Q : St → Hp → Prop), vs.length = is.length → Q (setsV σ is vs) H → t vs σ H Q
section
variable {p : Pr} {is : List Nat} {n : Nat}
theorem tq_one (i : Nat) : TqD p (gName i) [i] (gOne i) :=
  ⟨fun B H σ s s' v d Q ok hv e hq => hq [v] rfl (setD_imm ok hv e), fun σ s s' vs d j a hl e h => by
    match vs, hl with
    | [v], _ => exact owns_setD e h⟩
theorem tqs_nil : TqsD gNil [] 0 := ⟨rfl, fun σ H vs Q hl hq => by
  cases vs with
  | nil => exact ⟨rfl, hq⟩
  | cons _ _ => cases hl⟩
theorem tqs_cons (i : Nat) {t : TGs} (h : TqsD t is n) : TqsD (gCons (gName i) t) (i :: is) (n + 1) := ⟨by rw [h.len]; rfl, fun σ H vs Q hl hq => by
  cases vs with
  | nil => cases hl
  | cons v vs => exact ⟨v, vs, rfl, h.run _ H vs Q (by simpa using hl) hq⟩⟩
theorem tq_many {K : PySem.W.Frag} {t : TGs} (h : TqsD t is n) (eK : p.K = K := by rfl) : TqD p (gTup K n t) is (gMany is) := by
  refine ⟨fun B H σ s s' v d Q ok hv e hq => ?_, fun σ s s' vs d j a hl e h => by
    unfold gMany at e
    split at e
    · exact owns_setsD hl e h
    · cases e⟩
  unfold gMany at e
  split at e
  · rename_i ds
    cases hv with
    | tup hs hd =>
      rename_i a vs
      have hl : ∀ {is : List Nat} {ds : List D} {s s' : SD}, setsD s is ds = some s' → ds.length = is.length := by
        intro is
        induction is with
        | nil =>
          intro ds s s' e
          cases ds with
          | nil => rfl
          | cons _ _ => cases e
        | cons i is ih =>
          intro ds s s' e
          cases ds with
          | nil => cases e
          | cons d ds =>
            unfold setsD at e
            cases q : setD s i (.imm d) with
            | none =>
              rw [q] at e
              cases e
            | some s1 =>
              rw [q] at e
              exact congrArg (· + 1) (ih e)
      have hl' : vs.length = is.length := (dps_len hd).trans (hl e)
      exact ⟨a, vs, rfl, by rw [← eK]; exact sqT_same ok.bh (SqT.of hs), by rw [hl', h.len], h.run σ H vs Q hl' (hq vs hl' (setsD_ok ok hd e))⟩
  · cases e
end

/-! ### for -/
/-- the turns of a loop, the rest behind it -/
def loopF (g : D → SD → Option SD) (body : FS) : List D → SD → RS
  | [], s => .nx s
  | d :: ds, s => match g d s with
    | none => .no
    | some s1 => match body s1 with
      | .nx s2 => loopF g body ds s2
      | .ct s2 => loopF g body ds s2
      | .bk s2 => .nx s2
      | .rt r s2 => .rt r s2
      | .ex e s2 => .ex e s2
      | .no => .no
def R.stm {α : Type} (r : R α) (k : α → SD → RS) : RS := match r with
  | .ok a s1 => k a s1
  | .ex e s1 => .ex e s1
  | .no => .no
def fFor (it : FI) (g : D → SD → Option SD) (body : FS) : FS := fun s => (it s).stm fun ds s1 => loopF g body ds s1
/-- from a statement's start: a part of it is an expression's run -/
theorem run_sat {α : Type} {p : Pr} {W : WX} {σ : St} {s : SD} {B H : Hp} {r : R α} {D : Ends} {k : α → SD → RS} (h : sat p W B D (r.stm k)) : run p W σ s B H r fun a s1 B1 H1 => sat p W B1 D (k a s1) := by
  cases r with
  | ok a s1 => exact fun B1 H1 x1 ok1 => sat_later x1.bb h
  | ex e s1 => exact fun B1 H1 cls d x1 ok1 ex => h σ B1 H1 cls d x1.bb ok1 ex
  | no => exact h
section
variable {X : Cx} {p : Pr} {W : WX} {it : FI} {is : List Nat} {g : D → SD → Option SD} {fb : FS} {tg iter : Expr} {body : List Stmt} {pos : Pos} {t : TG}
theorem ds_for (hp : PassesOwn (model X.prog X.w) X.A X.env X.xe) (hc : X.calm = true) (hi : PI X tg iter (tI p W it)) (ht : PG X tg t) (hg : TqD p t is g) (hb : PSs X body (tS p W fb))
    (hs : ∀ x, foldedSetIterable iter X.env x = pure x := by intro _; rfl) : PS X (.For tg iter body [] pos) (tS p W (fFor it g fb)) := by
  have hq := hg.run
  refine PS.imp (ps_for hp hc hi ht hb hs) fun D σ H h => ?_
  obtain ⟨B, s, ok, h⟩ := h
  refine ⟨B, s, ok, run_mono (run_sat (k := fun ds s1 => loopF g fb ds s1) h) fun ds s1 B1 H1 x1 ok1 k J hJ => ?_⟩
  refine ⟨fun i m σ' H' => m = ds.length - i ∧ i ≤ ds.length ∧ ∃ B' s', Same B1 B' ∧ StOk p B' H' σ' s' ∧ sat p W B' D (loopF g fb (ds.drop i) s'), ⟨ds.length, by simp, Nat.zero_le _, B1, s1, Same.refl _, ok1, k⟩, ?_⟩
  rintro i m σ' H' ⟨rfl, hi, B', s', b1, ok', k'⟩
  obtain ⟨j1, j2⟩ := hJ B' H' b1 ok'.bh ok'.tb
  by_cases hlt : i < ds.length
  · have ed : ds[i]? = some ds[i] := List.getElem?_eq_getElem hlt
    obtain ⟨go, yl⟩ := j2 i _ ed
    rw [List.drop_eq_getElem_cons hlt] at k'
    refine .inr ⟨go, fun σ2 H2 => ∃ B2 s2, Same B1 B2 ∧ StOk p B2 H2 σ2 s2 ∧ sat p W B2 D (loopF g fb (ds.drop (i + 1)) s2), fun σ2 H2 q => ⟨ds.length - (i + 1), by omega, rfl, hlt, q⟩, fun x H2 y => ?_⟩
    obtain ⟨B2, gr, hx⟩ := yl x H2 y
    unfold loopF at k'
    cases eg : g ds[i] s' with
    | none =>
      rw [eg] at k'
      exact k'.elim
    | some s2 =>
      rw [eg] at k'
      dsimp only at k'
      refine hq B2 H2 σ' s' s2 x _ _ (ok'.grows gr) hx eg fun vs _ ok2 => ?_
      refine ⟨B2, s2, ok2, ?_⟩
      revert k'
      cases fb s2 with
      | nx s3 => exact fun k' σ3 B3 H3 b3 ok3 => ⟨B3, s3, (b1.trans gr.bb).trans b3, ok3, sat_later (gr.bb.trans b3) k'⟩
      | ct s3 => exact fun k' σ3 B3 H3 b3 ok3 => ⟨B3, s3, (b1.trans gr.bb).trans b3, ok3, sat_later (gr.bb.trans b3) k'⟩
      | bk s3 => exact fun k' σ3 B3 H3 b3 ok3 => k' σ3 B3 H3 (gr.bb.trans b3) ok3
      | rt r s3 => exact fun k' => sat_later gr.bb k'
      | ex e s3 => exact fun k' => sat_later gr.bb k'
      | no => exact fun k' => k'
  · have e : i = ds.length := by omega
    subst e
    rw [List.drop_length] at k'
    exact .inl ⟨j1, k' σ' B' H' (Same.refl _) ok'⟩
end

/-! ### a comprehension -/
def wipeD (s : SD) : List Nat → SD
  | [] => s
  | v :: vs => setS (wipeD s vs) v none
/-- the slots of the block's own names are those that stood -/
def backD (s0 s : SD) : List Nat → SD
  | [] => s
  | v :: vs => setS (backD s0 s vs) v (match getS s0 v with | some x => x | none => none)
def plainAt (s : SD) (i : Nat) : Bool := match getS s i with
  | some (some (.own _)) => false
  | some (some (.lent _)) => false
  | some (some (.dct _)) => false
  | some _ => true
  | none => false
def loopC (g : D → SD → Option SD) (cond : FT) (elt : FE) (vs : List Nat) : List D → SD → List D → R (List D)
  | [], s, acc => .ok acc s
  | d :: ds, s, acc => match g d s with
    | none => .no
    | some s1 => match cond s1 with
      | .ok true s2 => (match elt s2 with
        | .ok (.imm x) s3 => if acc.length < mx then loopC g cond elt vs ds (wipeD s3 vs) (acc ++ [x]) else .no
        | _ => .no)
      | .ok false s2 => loopC g cond elt vs ds (wipeD s2 vs) acc
      | _ => .no
def fLc (it : FI) (vs : List Nat) (g : D → SD → Option SD) (cond : FT) (elt : FE) : FE := fun s => (it s).bind fun ds s1 =>
  if vs.all (plainAt s1) then (match loopC g cond elt vs ds (wipeD s1 vs) [] with
    | .ok acc s2 => .ok (.tmp acc) (backD s1 s2 vs)
    | _ => .no) else .no
theorem wipeD_get {s : SD} {j : Nat} : ∀ {vs : List Nat}, (wipeD s vs)[j]? = if j ∈ vs ∧ j < s.length then some none else s[j]?
  | [] => by simp [wipeD]
  | v :: vs => by
    have hl : ∀ {us : List Nat}, (wipeD s us).length = s.length := fun {us} => by
      induction us with
      | nil => rfl
      | cons u us ih => unfold wipeD; rw [setS_eq, List.length_set, ih]
    unfold wipeD
    rw [setS_eq]
    by_cases e : v = j
    · subst e
      by_cases h : v < s.length
      · rw [List.getElem?_set_self (by rw [hl]; exact h), if_pos ⟨List.mem_cons_self, h⟩]
      · rw [List.getElem?_eq_none (by rw [List.length_set, hl]; omega), if_neg (fun z => h z.2), List.getElem?_eq_none (by omega)]
    · rw [List.getElem?_set_ne e, wipeD_get]
      have : (j ∈ v :: vs) ↔ j ∈ vs := ⟨fun z => (List.mem_cons.mp z).elim (fun q => absurd q.symm e) id, fun z => List.mem_cons_of_mem _ z⟩
      simp only [this]
theorem wipeD_len {s : SD} : ∀ {vs : List Nat}, (wipeD s vs).length = s.length
  | [] => rfl
  | u :: us => by unfold wipeD; rw [setS_eq, List.length_set, wipeD_len]
theorem backD_len {s0 s : SD} : ∀ {vs : List Nat}, (backD s0 s vs).length = s.length
  | [] => rfl
  | u :: us => by unfold backD; rw [setS_eq, List.length_set, backD_len]
theorem getD_eq (s0 : SD) (v : Nat) : (match s0[v]? with | some x => x | none => none) = s0.getD v none := by
  rw [List.getD_eq_getElem?_getD]
  cases s0[v]? <;> rfl
theorem backD_get {s0 s : SD} {j : Nat} : ∀ {vs : List Nat}, (backD s0 s vs)[j]? = if j ∈ vs ∧ j < s.length then some (s0.getD j none) else s[j]?
  | [] => by simp [backD]
  | v :: vs => by
    unfold backD
    rw [setS_eq, getS_eq, getD_eq]
    by_cases e : v = j
    · subst e
      by_cases h : v < s.length
      · rw [List.getElem?_set_self (by rw [backD_len]; exact h), if_pos ⟨List.mem_cons_self, h⟩]
      · rw [List.getElem?_eq_none (by rw [List.length_set, backD_len]; omega), if_neg (fun z => h z.2), List.getElem?_eq_none (by omega)]
    · rw [List.getElem?_set_ne e, backD_get]
      have : (j ∈ v :: vs) ↔ j ∈ vs := ⟨fun z => (List.mem_cons.mp z).elim (fun q => absurd q.symm e) id, fun z => List.mem_cons_of_mem _ z⟩
      simp only [this]
theorem wipe_get {σ : St} {j : Nat} : ∀ {vs : List Nat}, (wipe σ vs)[j]? = if j ∈ vs ∧ j < σ.length then some none else σ[j]?
  | [] => by simp [wipe]
  | v :: vs => by
    unfold wipe
    by_cases e : v = j
    · subst e
      by_cases h : v < σ.length
      · rw [List.getElem?_set_self (by rw [wipe_length]; exact h), if_pos ⟨List.mem_cons_self, h⟩]
      · rw [List.getElem?_eq_none (by rw [List.length_set, wipe_length]; omega), if_neg (fun z => h z.2), List.getElem?_eq_none (by omega)]
    · rw [List.getElem?_set_ne e, wipe_get]
      have : (j ∈ v :: vs) ↔ j ∈ vs := ⟨fun z => (List.mem_cons.mp z).elim (fun q => absurd q.symm e) id, fun z => List.mem_cons_of_mem _ z⟩
      simp only [this]
theorem owns_wipe {σ : St} {s : SD} {vs : List Nat} {i : Nat} {a : Addr} (hl : σ.length = s.length) (h : Owns (wipe σ vs) (wipeD s vs) i a) : Owns σ s i a := by
  obtain ⟨h1, xs, h2, hm⟩ := h
  rw [wipe_get] at h1
  rw [wipeD_get] at h2
  by_cases c : i ∈ vs ∧ i < s.length
  · rw [if_pos c] at h2
    cases h2
  · rw [if_neg c] at h2
    rw [if_neg (by rw [hl]; exact c)] at h1
    exact ⟨h1, xs, h2, hm⟩
theorem wipe_ok {p : Pr} {B H : Hp} {σ : St} {s : SD} {vs : List Nat} (ok : StOk p B H σ s) (hL : ∀ v ∈ vs, p.L v = none) : StOk p B H (wipe σ vs) (wipeD s vs) := by
  refine ⟨by rw [wipe_length, wipeD_len]; exact ok.len, fun i dv v e1 e2 => ?_, fun i j a o1 o2 => ok.sep i j a (owns_wipe ok.len o1) (owns_wipe ok.len o2), ok.b0, ok.bh, ok.fr, ok.dom, ok.new, ok.tb⟩
  rw [wipeD_get] at e1
  rw [wipe_get] at e2
  by_cases c : i ∈ vs ∧ i < s.length
  · rw [if_pos c] at e1
    cases e1
    exact hL i c.1
  · rw [if_neg c] at e1
    rw [if_neg (by rw [ok.len]; exact c)] at e2
    exact ok.slot i dv v e1 e2
theorem StOk.write {p : Pr} {B H : Hp} {σ : St} {s : SD} {c : Addr} {o : HO} (ok : StOk p B H σ s) (hz : p.Z c = none) (h2 : B c = none) (h4 : ∀ i, ¬ Owns σ s i c) (mo : Mutb o) : StOk p B (upd H c o) σ s := by
  have keep : ∀ b x, b ≠ c → H b = some x → upd H c o b = some x := fun b x hb e => by
    rw [upd_ne hb]
    exact e
  refine ⟨ok.len, fun i dv v e1 e2 => ?_, ok.sep, ok.b0, fun b x z => keep b x (fun w => by rw [w, h2] at z; cases z) (ok.bh b x z), fun b x z n => keep b x (fun w => by rw [w, hz] at z; cases z) (ok.fr b x z n), fun b z => ok.dom b (upd_none z), ok.new, fun b xs h => by
    by_cases w : b = c
    · rw [w, upd_same] at h
      exact (mo xs (Option.some.inj h)).elim
    · rw [upd_ne w] at h
      exact ok.tb b xs h⟩
  have q := ok.slot i dv v e1 e2
  match dv, q with
  | none, q => exact q
  | some (.imm d), q => exact q
  | some (.own xs), ⟨l, a, us, e, z, h, n, r⟩ => exact ⟨l, a, us, e, z, keep a _ (fun w => h4 i (by rw [← w]; exact ⟨by rw [e2, e], _, e1, rfl⟩)) h, n, r⟩
  | some (.lent xs), ⟨a, us, l, e, h, n, r⟩ => exact ⟨a, us, l, e, keep a _ (fun w => h4 i (by rw [← w]; exact ⟨by rw [e2, e], _, e1, rfl⟩)) h, n, r⟩
  | some .exc, q => exact q
  | some (.dct ks), ⟨l, a, us, e, z, h, n, r⟩ => exact ⟨l, a, us, e, z, keep a _ (fun w => h4 i (by rw [← w]; exact ⟨by rw [e2, e], _, e1, rfl⟩)) h, n, r⟩
theorem plain_L {p : Pr} {B H : Hp} {σ : St} {s : SD} {i : Nat} (ok : StOk p B H σ s) (h : plainAt s i = true) : p.L i = none ∧ ∀ a, ¬ Owns σ s i a := by
  unfold plainAt at h
  rw [getS_eq] at h
  split at h
  · cases h
  · cases h
  · cases h
  · rename_i dv n1 n2 n3 q
    have hi := (List.getElem?_eq_some_iff.mp q).1
    have hσ : i < σ.length := by rw [ok.len]; exact hi
    have z := ok.slot i dv _ q (List.getElem?_eq_getElem hσ)
    refine ⟨?_, fun a o => ?_⟩
    · match dv, n1, n2, z with
      | none, _, _, z => exact z
      | some (.imm _), _, _, z => exact z.1
      | some (.own _), _, _, z => exact z.1
      | some (.lent xs), _, n2, _ => exact (n2 xs rfl).elim
      | some .exc, _, _, z => exact z.1
      | some (.dct _), _, _, z => exact z.1
    · obtain ⟨_, x, o, m⟩ := o
      rw [q] at o
      have ox := Option.some.inj o
      match x, m, ox with
      | .own xs, _, ox => exact n1 xs ox
      | .lent xs, _, ox => exact n2 xs ox
      | .dct xs, _, ox => exact n3 xs ox
  · cases h
def WF : WX := fun _ _ _ _ => False
section
variable {X : Cx} {p : Pr} {W : WX} {it : FI} {is vs : List Nat} {g : D → SD → Option SD} {cond : FT} {fe : FE} {elt tg iter : Expr} {ifs : List Expr} {scope : Scope} {own : List (Str × Nat)} {pos : Pos}
theorem lc_of {σ : St} {H : Hp} {Q : VK} {t : TG} (hq : ∀ (B H : Hp) (σ : St) (s s' : SD) (v : V) (d : D) (Q : St → Hp → Prop), StOk p B H σ s → Dp p.K B v d → g d s = some s' → (∀ vs, vs.length = is.length → StOk p B H (setsV σ is vs) s' → Q (setsV σ is vs) H) → t v σ H Q)
    (ho : ∀ (σ : St) (s s' : SD) (vs : List V) (d : D) (j : Nat) (a : Addr), vs.length = is.length → g d s = some s' → Owns (setsV σ is vs) s' j a → Owns σ s j a)
    (hsub : ∀ i ∈ is, i ∈ vs) (h : tE p W (fLc it vs g cond fe) σ H Q) : tLc (tI p W it) t (tT p WF cond) (tE p WF fe) vs σ H Q := by
  obtain ⟨B, s, ok, q⟩ := h
  refine ⟨B, s, ok, run_mono (run_bind q) fun ds s1 B1 H1 x1 ok1 k J hJ D nD => ?_⟩
  revert k
  by_cases hpl : vs.all (plainAt s1) = true
  rotate_left
  · rw [if_neg hpl]
    exact fun k => k.elim
  rw [if_pos hpl]
  cases eL : loopC g cond fe vs ds (wipeD s1 vs) [] with
  | no => exact fun k => k.elim
  | ex _ _ => exact fun k => k.elim
  | ok accF sF =>
    intro k
    have pl : ∀ v ∈ vs, p.L v = none ∧ ∀ a, ¬ Owns σ s1 v a := fun v hv => plain_L ok1 (List.all_eq_true.mp hpl v hv)
    have hL : ∀ v ∈ vs, p.L v = none := fun v hv => (pl v hv).1
    have okw : StOk p B1 H1 (wipe σ vs) (wipeD s1 vs) := wipe_ok ok1 hL
    have idem : wipe (wipe σ vs) vs = wipe σ vs := by
      refine List.ext_getElem? fun j => ?_
      rw [wipe_get, wipe_length]
      by_cases c : j ∈ vs ∧ j < σ.length
      · rw [if_pos c, wipe_get, if_pos c]
      · rw [if_neg c]
    have zD : p.Z D = none := okw.dom D nD
    let Inv := fun (i : Nat) (H' : Hp) => ∃ B' s' acc vacc, Ext (wipe σ vs) (wipeD s1 vs) s' B1 H1 B' H' ∧ StOk p B' H' (wipe σ vs) s' ∧ H' D = some (.lst vacc) ∧ B' D = none ∧ DpAll p.K B' vacc acc ∧ (∀ j, ¬ Owns (wipe σ vs) s' j D) ∧ loopC g cond fe vs (ds.drop i) s' acc = .ok accF sF
    refine ⟨fun i m H' => m = ds.length - i ∧ i ≤ ds.length ∧ Inv i H', ⟨ds.length, by simp, Nat.zero_le _, B1, wipeD s1 vs, [], [], .newH nD, okw.newH nD mutb_lst, upd_same, ok1.bh.free nD, .nil, okw.notOwn nD, eL⟩, ?_⟩
    rintro i m H' ⟨rfl, hi, B', s', acc, vacc, x', ok', hD, bD, da, nO, el⟩
    obtain ⟨j1, j2⟩ := hJ B' H' x'.bb ok'.bh ok'.tb
    by_cases hlt : i < ds.length
    · have ed : ds[i]? = some ds[i] := List.getElem?_eq_getElem hlt
      obtain ⟨go, yl⟩ := j2 i _ ed
      rw [List.drop_eq_getElem_cons hlt] at el
      unfold loopC at el
      refine .inr ⟨go, Inv (i + 1), fun H2 q => ⟨ds.length - (i + 1), by omega, rfl, hlt, q⟩, fun x H2 y => ?_⟩
      obtain ⟨B2, gr, hx⟩ := yl x H2 y
      cases eg : g ds[i] s' with
      | none =>
        rw [eg] at el
        cases el
      | some s2 =>
        rw [eg] at el
        refine hq B2 H2 (wipe σ vs) s' s2 x _ _ (ok'.grows gr) hx eg fun us hus ok2 => ?_
        have ew : wipe (setsV (wipe σ vs) is us) vs = wipe σ vs := by rw [wipe_sets hsub, idem]
        refine ⟨by rw [ew], B2, s2, ok2, ?_⟩
        have ox : ∀ j a, Owns (setsV (wipe σ vs) is us) s2 j a → Owns (wipe σ vs) s' j a := fun j a o => ho _ _ _ us _ j a hus eg o
        have xg : Ext (wipe σ vs) s' s' B' H' B2 H2 := gr.ext
        have h2D : H2 D = some (.lst vacc) := gr.hh D _ hD
        have b2D : B2 D = none := gr.new D (by rw [hD]; exact fun z => nomatch z) bD
        -- a turn's end: the slots wiped again
        have fin : ∀ {s4 : SD} {B4 H4 : Hp}, Ext (setsV (wipe σ vs) is us) s2 s4 B2 H2 B4 H4 → StOk p B4 H4 (setsV (wipe σ vs) is us) s4 →
            Ext (wipe σ vs) (wipeD s1 vs) (wipeD s4 vs) B1 H1 B4 H4 ∧ StOk p B4 H4 (wipe σ vs) (wipeD s4 vs) ∧ (∀ j, ¬ Owns (wipe σ vs) (wipeD s4 vs) j D) ∧ H4 D = some (.lst vacc) ∧ B4 D = none := fun {s4 B4 H4} x4 ok4 => by
          have o4 : ∀ j a, Owns (wipe σ vs) (wipeD s4 vs) j a → Owns (wipe σ vs) s' j a := fun j a o => by
            rw [← ew] at o
            exact ox j a (x4.own j a (owns_wipe ok4.len o))
          have e4 : StOk p B4 H4 (wipe σ vs) (wipeD s4 vs) := by
            rw [← ew]
            exact wipe_ok ok4 hL
          refine ⟨⟨(x'.bb.trans gr.bb).trans x4.bb, fun b o z n => ?_, fun b z => x'.dom b (gr.hh.free (x4.dom b z)), fun b z e => ?_, fun j a o => x'.own j a (o4 j a o)⟩, e4, fun j o => nO j (o4 j D o), x4.hh D _ h2D fun j o => nO j (ox j D o), x4.new D (by rw [h2D]; exact fun z => nomatch z) b2D⟩
          · have z1 := x'.hh b o z n
            exact x4.hh b o (gr.hh b o z1) fun j q => n j (x'.own j b (ox j b q))
          · have z1 : H' b ≠ none := fun w => z (x'.dom b w)
            have z2 := gr.new b z1 (x'.new b z e)
            exact x4.new b (fun w => z1 (gr.hh.free w)) z2
        dsimp only at el
        cases ec : cond s2 with
        | no =>
          rw [ec] at el
          cases el
        | ex _ _ =>
          rw [ec] at el
          cases el
        | ok b s3 =>
          rw [ec] at el
          cases b with
          | false =>
            dsimp only at el
            intro B3 H3 x3 ok3
            dsimp only
            rw [if_neg Bool.false_ne_true]
            obtain ⟨f1, f2, f3, f4, f5⟩ := fin x3 ok3
            exact ⟨B3, wipeD s3 vs, acc, vacc, f1, f2, f4, f5, dps_same (gr.bb.trans x3.bb) _ _ da, f3, el⟩
          | true =>
            dsimp only at el
            intro B3 H3 x3 ok3
            dsimp only
            rw [if_pos rfl]
            refine ⟨B3, s3, ok3, ?_⟩
            cases ee : fe s3 with
            | no =>
              rw [ee] at el
              cases el
            | ex _ _ =>
              rw [ee] at el
              cases el
            | ok r s4 =>
              rw [ee] at el
              cases r with
              | tmp _ => cases el
              | slot _ => cases el
              | tmpd _ => cases el
              | imm d =>
                dsimp only at el
                intro B4 H4 x4 ok4 y hy
                by_cases hacc : acc.length < mx
                rotate_left
                · rw [if_neg hacc] at el
                  cases el
                rw [if_pos hacc] at el
                obtain ⟨f1, f2, f3, f4, f5⟩ := fin (x3.trans x4) ok4
                have da4 := dps_same ((gr.bb.trans x3.bb).trans x4.bb) _ _ da
                refine ⟨vacc, f4, by rw [dps_len da]; exact mx_lt (Nat.le_of_lt hacc), B4, wipeD s4 vs, acc ++ [d], vacc ++ [y], ⟨f1.bb, fun b o z n => ?_, fun b z => f1.dom b (upd_none z), f1.new, f1.own⟩, f2.write zD f5 f3 mutb_lst, upd_same, f5, dps_app da4 (.cons hy .nil), f3, el⟩
                rw [upd_ne (fun w => by rw [w, nD] at z; cases z)]
                exact f1.hh b o z n
    · have e : i = ds.length := by omega
      subst e
      rw [List.drop_length] at el
      cases el
      refine .inl ⟨j1, ?_⟩
      have ob : ∀ j a, Owns σ (backD s1 sF vs) j a → j ∉ vs ∧ Owns (wipe σ vs) sF j a := fun j a o => by
        obtain ⟨o1, x, o2, m⟩ := o
        rw [backD_get] at o2
        by_cases c : j ∈ vs ∧ j < sF.length
        · rw [if_pos c] at o2
          have hj : j < s1.length := by rw [← ok1.len]; exact (List.getElem?_eq_some_iff.mp o1).1
          have eg : s1.getD j none = s1[j] := by simp [List.getD, hj]
          rw [eg] at o2
          exact absurd ⟨o1, x, by rw [List.getElem?_eq_getElem hj]; exact o2, m⟩ ((pl j c.1).2 a)
        · rw [if_neg c] at o2
          have hlF : j < sF.length := (List.getElem?_eq_some_iff.mp o2).1
          have nj : j ∉ vs := fun z => c ⟨z, hlF⟩
          refine ⟨nj, ?_, x, o2, m⟩
          rw [wipe_get, if_neg (fun z => nj z.1)]
          exact o1
      have e1 : s1.length = sF.length := by
        rw [← ok1.len, ← ok'.len, wipe_length]
      refine k B' H' ⟨x'.bb, fun b o z n => x'.hh b o z fun j q => n j (owns_wipe ok1.len q), x'.dom, x'.new, fun j a o => owns_wipe ok1.len (x'.own j a (ob j a o).2)⟩ ?_ _ ⟨D, vacc, rfl, x1.dom D nD, hD, bD, da, fun j o => nO j (ob j D o).2⟩
      refine ⟨by rw [backD_len, ← e1]; exact ok1.len, fun j dv v e2 e3 => ?_, fun j l a o1 o2 => ok'.sep j l a (ob j a o1).2 (ob l a o2).2, ok'.b0, ok'.bh, ok'.fr, ok'.dom, ok'.new, ok'.tb⟩
      rw [backD_get] at e2
      by_cases c : j ∈ vs ∧ j < sF.length
      · rw [if_pos c] at e2
        have hj : j < s1.length := by rw [e1]; exact c.2
        have eg : s1.getD j none = s1[j] := by simp [List.getD, hj]
        rw [eg] at e2
        have z := ok1.slot j dv v (by rw [List.getElem?_eq_getElem hj]; exact e2) e3
        have np := (pl j c.1).2
        match dv, z, e2 with
        | none, z, _ => exact z
        | some (.imm d), ⟨l, x, e, r⟩, _ => exact ⟨l, x, e, dp_same x'.bb _ _ r⟩
        | some (.own xs), ⟨l, a, us, e, _⟩, e2 => exact absurd ⟨by rw [e3, e], _, by rw [List.getElem?_eq_getElem hj]; exact e2, rfl⟩ (np a)
        | some (.lent xs), ⟨a, us, l, e, _⟩, e2 => exact absurd ⟨by rw [e3, e], _, by rw [List.getElem?_eq_getElem hj]; exact e2, rfl⟩ (np a)
        | some .exc, z, _ => exact z
        | some (.dct ks), ⟨l, a, us, e, _⟩, e2 => exact absurd ⟨by rw [e3, e], _, by rw [List.getElem?_eq_getElem hj]; exact e2, rfl⟩ (np a)
      · rw [if_neg c] at e2
        have hlF := (List.getElem?_eq_some_iff.mp e2).1
        have nj : j ∉ vs := fun z => c ⟨z, hlF⟩
        exact ok'.slot j dv v e2 (by rw [wipe_get, if_neg (fun z => nj z.1)]; exact e3)
/-- without a test -/
def fYes : FT := fun s => .ok true s
theorem dts_nil : PTs X [] (tT p WF fYes) := ⟨fun pins s σ H Q I h => by
  obtain ⟨B, s', ok, q⟩ := h
  exact pts_nil.run pins s σ H Q I (q B H .refl ok)⟩
theorem dts_one {c : Expr} {u : FT} (h : PT X c (tT p WF u)) : PTs X [c] (tT p WF u) := pts_one h
theorem de_lc {t : TG} (hc : X.calm = true) (hN : X.N.Nodup) (hi : PI X tg iter (tI p W it)) (ok : BlkOk X.N X.env.scope scope own)
    (hg : ∀ (s : Shared) (H : Hp) (C : Addr) (cl : List (Str × Addr)) (fp : List Addr), PG (X.blk s H scope (compEnvC scope cl C X.env) fp) tg t) (tq : TqD p t is g) (ht : ∀ (s : Shared) (H : Hp) (C : Addr) (cl : List (Str × Addr)) (fp : List Addr), PTs (X.blk s H scope (compEnvC scope cl C X.env) fp) ifs (tT p WF cond))
    (he : ∀ (s : Shared) (H : Hp) (C : Addr) (cl : List (Str × Addr)) (fp : List Addr), PE (X.blk s H scope (compEnvC scope cl C X.env) fp) elt (tE p WF fe)) (hsub : ∀ i ∈ is, i ∈ own.map (·.2)) (hs : ∀ x, foldedSetIterable iter X.env x = pure x := by intro _; rfl) :
    PE X (.ListComp elt [⟨tg, iter, ifs, 0⟩] scope pos) (tE p W (fLc it (own.map (·.2)) g cond fe)) :=
  PE.imp (pe_lc hc hN hi ok hg ht he hs) fun σ H Q h => lc_of tq.run tq.own hsub h
end
end DL
end

set_option Elab.async false
set_option linter.all false
set_option maxRecDepth 100000
set_option maxHeartbeats 4000000
noncomputable section
namespace DL
open PySem PySem.Spec PyProof.Rows L2

/-! ### slots of our own lists -/
theorem setD_own {p : Pr} {B H : Hp} {σ : St} {s s' : SD} {i : Nat} {a : Addr} {dv : DV} (ok : StOk p B H σ s) (h4 : ∀ j, ¬ Owns σ s j a) (hs : p.L i = none → SlotOk p B H i (some (.ref a)) (some dv)) (e : setD s i dv = some s') : StOk p B H (σ.set i (some (.ref a))) s' := by
  unfold setD at e
  rw [getS_eq] at e
  simp only [setS_eq] at e
  split at e
  · cases e
  · rename_i dw nl q
    cases e
    have hl : p.L i = none := by
      have hi := (List.getElem?_eq_some_iff.mp q).1
      have hσ : i < σ.length := by rw [ok.len]; exact hi
      have z := ok.slot i dw _ q (List.getElem?_eq_getElem hσ)
      match dw, nl, z with
      | none, _, z => exact z
      | some (.imm _), _, z => exact z.1
      | some (.own _), _, z => exact z.1
      | some (.lent xs), nl, _ => exact (nl xs rfl).elim
      | some .exc, _, z => exact z.1
      | some (.dct _), _, z => exact z.1
    have oth : ∀ {j : Nat} {c : Addr}, i ≠ j → Owns (σ.set i (some (.ref a))) (s.set i (some dv)) j c → Owns σ s j c := fun {j c} ne o => by
      obtain ⟨o1, ys, o2, m⟩ := o
      rw [List.getElem?_set_ne ne] at o1 o2
      exact ⟨o1, ys, o2, m⟩
    have own : ∀ {c : Addr}, Owns (σ.set i (some (.ref a))) (s.set i (some dv)) i c → c = a := fun {c} o => by
      obtain ⟨o1, _⟩ := o
      rw [List.getElem?_set_self (by have := (List.getElem?_eq_some_iff.mp o1).1; simpa using this)] at o1
      have e1 : (V.ref a) = .ref c := Option.some.inj (Option.some.inj o1)
      cases e1
      rfl
    refine ⟨by rw [List.length_set, List.length_set]; exact ok.len, fun j dj vj e1 e2 => ?_, fun j k c o1 o2 => ?_, ok.b0, ok.bh, ok.fr, ok.dom, ok.new, ok.tb⟩
    · by_cases ej : i = j
      · subst ej
        rw [List.getElem?_set_self (by have := (List.getElem?_eq_some_iff.mp e1).1; simpa using this)] at e1
        rw [List.getElem?_set_self (by have := (List.getElem?_eq_some_iff.mp e2).1; simpa using this)] at e2
        cases e1
        cases e2
        exact hs hl
      · rw [List.getElem?_set_ne ej] at e1 e2
        exact ok.slot j dj vj e1 e2
    · by_cases ej : i = j
      · by_cases ek : i = k
        · exact ej.symm.trans ek
        · subst ej
          have ec := own o1
          subst ec
          exact absurd (oth ek o2) (h4 k)
      · by_cases ek : i = k
        · subst ek
          have ec := own o2
          subst ec
          exact absurd (oth ej o1) (h4 j)
        · exact ok.sep j k c (oth ej o1) (oth ek o2)
  · cases e
/-- the thing of a slot gets another content -/
theorem upd_slot {p : Pr} {B H : Hp} {σ : St} {s : SD} {i : Nat} {a : Addr} {dv dv' : DV} {u : HO} (ok : StOk p B H σ s) (q : s[i]? = some (some dv)) (hm : dv.mut = true) (hm' : dv'.mut = true) (ha : σ[i]? = some (some (.ref a))) (mu : Mutb u) (hL : p.Z a = none ∨ p.L i = some a)
    (hs : SlotOk p B (upd H a u) i (some (.ref a)) (some dv')) : StOk p B (upd H a u) σ (s.set i (some dv')) ∧ ∀ j c, Owns σ (s.set i (some dv')) j c → Owns σ s j c := by
  have oi : Owns σ s i a := ⟨ha, dv, q, hm⟩
  obtain ⟨u0, h1, h2, _⟩ := ok.owned oi
  have ow : ∀ j c, Owns σ (s.set i (some dv')) j c → Owns σ s j c := fun j c o => by
    obtain ⟨o1, zs, o2, m⟩ := o
    by_cases ej : i = j
    · subst ej
      rw [ha] at o1
      cases o1
      exact oi
    · rw [List.getElem?_set_ne ej] at o2
      exact ⟨o1, zs, o2, m⟩
  refine ⟨⟨by rw [List.length_set]; exact ok.len, fun j dw v e1 e2 => ?_, fun j k c o1 o2 => ok.sep j k c (ow j c o1) (ow k c o2), ok.b0, fun b o z => ?_, fun b o z n => ?_, fun b z => ok.dom b (upd_none z), ok.new, fun b xs h => ?_⟩, ow⟩
  · by_cases ej : i = j
    · subst ej
      rw [List.getElem?_set_self (by have := (List.getElem?_eq_some_iff.mp e1).1; simpa using this)] at e1
      rw [ha] at e2
      cases e1
      cases e2
      exact hs
    · rw [List.getElem?_set_ne ej] at e1
      have z := ok.slot j dw v e1 e2
      have nc : ∀ {c : Addr} {x : DV}, v = some (.ref c) → dw = some x → x.mut = true → c ≠ a := fun {c x} hv hd hx w => ej (ok.sep i j a oi ⟨by rw [e2, hv, w], x, by rw [e1, hd], hx⟩)
      match dw, z with
      | none, z => exact z
      | some (.imm d), z => exact z
      | some (.own us), ⟨l, c, vs', e, hz, h, n, r⟩ => exact ⟨l, c, vs', e, hz, by rw [upd_ne (nc e rfl rfl)]; exact h, n, r⟩
      | some (.lent us), ⟨c, vs', l, e, h, n, r⟩ => exact ⟨c, vs', l, e, by rw [upd_ne (nc e rfl rfl)]; exact h, n, r⟩
      | some .exc, z => exact z
      | some (.dct us), ⟨l, c, vs', e, hz, h, n, r⟩ => exact ⟨l, c, vs', e, hz, by rw [upd_ne (nc e rfl rfl)]; exact h, n, r⟩
  · rw [upd_ne (fun w => by rw [w, h2] at z; cases z)]
    exact ok.bh b o z
  · have nb : b ≠ a := fun w => by
      rcases hL with hL | hL
      · rw [w, hL] at z
        cases z
      · rw [w] at n
        exact n i hL
    rw [upd_ne nb]
    exact ok.fr b o z n
  · by_cases w : b = a
    · rw [w, upd_same] at h
      exact (mu xs (Option.some.inj h)).elim
    · rw [upd_ne w] at h
      exact ok.tb b xs h
/-- a list of ours, or a lent one, gets another content -/
def setC (s : SD) (i : Nat) (f : List D → Option (List D)) : Option SD := match getS s i with
  | some (some (.own xs)) => (f xs).map fun ys => setS s i (some (.own ys))
  | some (some (.lent xs)) => (f xs).map fun ys => setS s i (some (.lent ys))
  | _ => none
theorem setC_ok {p : Pr} {B H : Hp} {σ : St} {s s' : SD} {i : Nat} {a : Addr} {f : List D → Option (List D)} {ws : List V} (ok : StOk p B H σ s) (ha : σ[i]? = some (some (.ref a)))
    (e : setC s i f = some s') (hw : ∀ xs ys vs, view s (.slot i) = some (.list xs) → H a = some (.lst vs) → DpAll p.K B vs xs → f xs = some ys → DpAll p.K B ws ys) :
    StOk p B (upd H a (.lst ws)) σ s' ∧ ∀ j c, Owns σ s' j c → Owns σ s j c := by
  unfold setC at e
  rw [getS_eq] at e
  simp only [setS_eq] at e
  split at e
  · rename_i xs q
    cases ef : f xs with
    | none =>
      rw [ef] at e
      cases e
    | some ys =>
      rw [ef] at e
      cases e
      obtain ⟨l, c, vs', ec, hz, h', n, r⟩ := ok.slot i _ _ q ha
      cases ec
      exact upd_slot ok q rfl rfl ha mutb_lst (.inl hz) ⟨l, a, ws, rfl, hz, upd_same, n, hw xs ys vs' (by unfold view; simp only [getS_eq, q]) h' r ef⟩
  · rename_i xs q
    cases ef : f xs with
    | none =>
      rw [ef] at e
      cases e
    | some ys =>
      rw [ef] at e
      cases e
      obtain ⟨c, vs', l, ec, h', n, r⟩ := ok.slot i _ _ q ha
      cases ec
      exact upd_slot ok q rfl rfl ha mutb_lst (.inr l) ⟨a, ws, l, rfl, upd_same, n, hw xs ys vs' (by unfold view; simp only [getS_eq, q]) h' r ef⟩
  · cases e
/-- a thing of ours is frozen -/
def frz (i : Nat) (s : SD) : SD := match s[i]? with
  | some (some (.own xs)) => s.set i (some (.imm (.list xs)))
  | some (some (.dct ks)) => s.set i (some (.imm (.dict ks)))
  | _ => s
theorem frz_slot {p : Pr} {B H B' H' : Hp} {σ : St} {s : SD} {i : Nat} {a : Addr} {dv : DV} {d : D} (ok : StOk p B H σ s) (q : s[i]? = some (some dv)) (hm : dv.mut = true) (ha : σ[i]? = some (some (.ref a))) (hl : p.L i = none) (hz : p.Z a = none)
    (sb : Same B B') (eb : ∀ b, b ≠ a → B' b = B b) (eh : ∀ b, b ≠ a → H' b = H b) (ba : ∃ o, B' a = some o ∧ H' a = some o ∧ Mutb o) (hd : Dp p.K B' (.ref a) d) : StOk p B' H' σ (s.set i (some (.imm d))) := by
  have hi := (List.getElem?_eq_some_iff.mp q).1
  have oi : Owns σ s i a := ⟨ha, dv, q, hm⟩
  obtain ⟨o, b1, b2, b3⟩ := ba
  have ow : ∀ j c, Owns σ (s.set i (some (.imm d))) j c → i ≠ j ∧ Owns σ s j c := fun j c o => by
    obtain ⟨o1, zs, o2, m⟩ := o
    by_cases ej : i = j
    · subst ej
      rw [List.getElem?_set_self hi] at o2
      cases o2
      cases m
    · rw [List.getElem?_set_ne ej] at o2
      exact ⟨ej, o1, zs, o2, m⟩
  refine ⟨by rw [List.length_set]; exact ok.len, fun j dw v e1 e2 => ?_, fun j k c o1 o2 => ok.sep j k c (ow j c o1).2 (ow k c o2).2, ok.b0.trans sb, fun b x z => ?_, fun b x z n => ?_, fun b z => ?_, fun b z e => ?_, fun b xs h => ?_⟩
  · by_cases ej : i = j
    · subst ej
      rw [List.getElem?_set_self hi] at e1
      rw [ha] at e2
      cases e1
      cases e2
      exact ⟨hl, _, rfl, hd⟩
    · rw [List.getElem?_set_ne ej] at e1
      have z := ok.slot j dw v e1 e2
      have nc : ∀ {c : Addr} {x : DV}, v = some (.ref c) → dw = some x → x.mut = true → c ≠ a := fun {c x} hv hd hx w => ej (ok.sep i j a oi ⟨by rw [e2, hv, w], x, by rw [e1, hd], hx⟩)
      match dw, z with
      | none, z => exact z
      | some (.imm d), ⟨l', x, e, r⟩ => exact ⟨l', x, e, dp_same sb _ _ r⟩
      | some (.own us), ⟨l', c, vs', e, hz', h, n, r⟩ => exact ⟨l', c, vs', e, hz', by rw [eh _ (nc e rfl rfl)]; exact h, by rw [eb _ (nc e rfl rfl)]; exact n, dps_same sb _ _ r⟩
      | some (.lent us), ⟨c, vs', l', e, h, n, r⟩ => exact ⟨c, vs', l', e, by rw [eh _ (nc e rfl rfl)]; exact h, by rw [eb _ (nc e rfl rfl)]; exact n, dps_same sb _ _ r⟩
      | some .exc, z => exact z
      | some (.dct us), ⟨l', c, vs', e, hz', h, n, r⟩ => exact ⟨l', c, vs', e, hz', by rw [eh _ (nc e rfl rfl)]; exact h, by rw [eb _ (nc e rfl rfl)]; exact n, dcs_same sb _ _ r⟩
  · by_cases w : b = a
    · subst w
      rw [b1] at z
      rw [b2, z]
    · rw [eb b w] at z
      rw [eh b w]
      exact ok.bh b x z
  · rw [eh b (fun w => by rw [w, hz] at z; cases z)]
    exact ok.fr b x z n
  · by_cases w : b = a
    · rw [w, b2] at z
      cases z
    · rw [eh b w] at z
      exact ok.dom b z
  · rw [eb b (fun w => z (by rw [w]; exact hz))]
    exact ok.new b z e
  · by_cases w : b = a
    · rw [w, b2] at h
      exact (b3 xs (Option.some.inj h)).elim
    · rw [eh b w] at h
      rw [eb b w]
      exact ok.tb b xs h
theorem frz_ok {p : Pr} {B H : Hp} {σ : St} {s : SD} {i : Nat} (ok : StOk p B H σ s) : (∃ B', Same B B' ∧ StOk p B' H σ (frz i s)) ∨ ∃ c u, H c = some u ∧ Mut (some u) ∧ ∀ od, ∃ B', Same B B' ∧ StOk p B' (upd H c (.frz od u)) σ (frz i s) := by
  unfold frz
  split
  · rename_i xs q
    have hi := (List.getElem?_eq_some_iff.mp q).1
    have hσ : i < σ.length := by rw [ok.len]; exact hi
    obtain ⟨l, a, vs, e, hz, h1, h2, h3⟩ := ok.slot i _ _ q (List.getElem?_eq_getElem hσ)
    have ha : σ[i]? = some (some (.ref a)) := by rw [List.getElem?_eq_getElem hσ, e]
    have sb : Same B (upd B a (.lst vs)) := same_upd h2
    exact .inl ⟨_, sb, frz_slot ok q rfl ha l hz sb (fun b w => upd_ne w) (fun b w => rfl) ⟨_, upd_same, h1, mutb_lst⟩ (.lst (.inl (Rd.of upd_same)) (dps_same sb _ _ h3))⟩
  · rename_i ks q
    have hi := (List.getElem?_eq_some_iff.mp q).1
    have hσ : i < σ.length := by rw [ok.len]; exact hi
    obtain ⟨l, a, u, e, hz, h1, h2, h3⟩ := ok.slot i _ _ q (List.getElem?_eq_getElem hσ)
    have ha : σ[i]? = some (some (.ref a)) := by rw [List.getElem?_eq_getElem hσ, e]
    refine .inr ⟨a, u, h1, h3.mut, fun od => ?_⟩
    have sb : Same B (upd B a (.frz od u)) := same_upd h2
    exact ⟨_, sb, frz_slot ok q rfl ha l hz sb (fun b w => upd_ne w) (fun b w => upd_ne w) ⟨_, upd_same, upd_same, fun xs z => nomatch z⟩ (.dic upd_same (dcs_same sb _ _ h3))⟩
  · exact .inl ⟨B, Same.refl _, ok⟩
/-- a thing is known to its object from here on -/
theorem pss_frz {X : Cx} {sts : List Stmt} {t : TS} (h : PSs X sts t) : PSs X sts (fun Dn σ H => t Dn σ H ∨ ∃ d u, H d = some u ∧ Mut (some u) ∧ ∀ od, t Dn σ (upd H d (.frz od u))) := by
  refine ⟨fun pins s σ H Dn I hw => ?_⟩
  rcases hw with hw | ⟨d, u, hd, mu, hw⟩
  · exact h.run pins s σ H Dn I hw
  · obtain ⟨od, I1⟩ := I.lock hd mu
    exact h.run pins s σ _ Dn I1 (hw od)

/-! ### statements -/
def fSeq (f g : FS) : FS := fun s => match f s with
  | .nx s1 => g s1
  | r => r
def fNx : FS := fun s => .nx s
def fBk : FS := fun s => .bk s
def fCt : FS := fun s => .ct s
def fDrop (f : FE) : FS := fun s => (f s).stm fun _ s1 => .nx s1
def fSetI (i : Nat) (f : FE) : FS := fun s => (fI f s).stm fun r s1 => match r with
  | .imm d => (match setD s1 i (.imm d) with
    | some s2 => .nx s2
    | none => .no)
  | _ => .no
def fSetO (i : Nat) (f : FE) : FS := fun s => (f s).stm fun r s1 => match r with
  | .tmp xs => (match setD s1 i (.own xs) with
    | some s2 => .nx s2
    | none => .no)
  | .tmpd ks => (match setD s1 i (.dct ks) with
    | some s2 => .nx s2
    | none => .no)
  | _ => .no
def fTgt (g : D → SD → Option SD) (f : FE) : FS := fun s => (fI f s).stm fun r s1 => match r with
  | .imm d => (match g d s1 with
    | some s2 => .nx s2
    | none => .no)
  | _ => .no
def fIfS (u : FT) (f g : FS) : FS := fun s => (u s).stm fun b s1 => match b with
  | true => f s1
  | false => g s1
def fRet (f : FE) : FS := fun s => (f s).stm fun r s1 => match r with
  | .imm d => .rt (.imm d) s1
  | .tmp xs => .rt (.tmp xs) s1
  | .slot i => (match s1[i]? with
    | some (some (.own xs)) => .rt (.tmp xs) (s1.set i none)
    | some (some (.dct ks)) => .rt (.tmpd ks) (s1.set i none)
    | _ => .no)
  | .tmpd ks => .rt (.tmpd ks) s1
def fRetN : FS := fun s => .rt (.imm .none) s
def fFrz (i : Nat) (f : FS) : FS := fun s => f (frz i s)
def fNo : FS := fun _ => .no
section
variable {X : Cx} {p : Pr} {W : WX} {f g : FE} {u : FT} {fs gs : FS} {e c : Expr} {st : Stmt} {sts : List Stmt} {pos : Pos} {te : TE}
theorem dss_nil : PSs X [] (tS p W fNx) := PSs.imp pss_nil fun D σ H h => by
  obtain ⟨B, s, ok, h⟩ := h
  exact h σ B H (Same.refl _) ok
theorem dss_one (h : PS X st (tS p W fs)) : PSs X [st] (tS p W fs) := pss_one h
theorem dss_cons (h1 : PS X st (tS p W fs)) (h2 : PSs X sts (tS p W gs)) : PSs X (st :: sts) (tS p W (fSeq fs gs)) := PSs.imp (pss_cons h1 h2) fun D σ H h => by
  obtain ⟨B, s, ok, h⟩ := h
  refine ⟨B, s, ok, ?_⟩
  unfold fSeq at h
  revert h
  cases fs s with
  | nx s1 => exact fun h σ' B' H' b ok' => ⟨B', s1, ok', sat_later b h⟩
  | bk s1 => exact fun h => h
  | ct s1 => exact fun h => h
  | rt r s1 => exact fun h => h
  | ex e s1 => exact fun h => h
  | no => exact fun h => h
theorem dss_frz (i : Nat) (h : PSs X sts (tS p W fs)) : PSs X sts (tS p W (fFrz i fs)) := PSs.imp (pss_frz h) fun D σ H h => by
  obtain ⟨B, s, ok, h⟩ := h
  rcases frz_ok (i := i) ok with ⟨B', b, ok'⟩ | ⟨c, u, hc, mu, q⟩
  · exact .inl ⟨B', _, ok', sat_later b h⟩
  · refine .inr ⟨c, u, hc, mu, fun od => ?_⟩
    obtain ⟨B', b, ok'⟩ := q od
    exact ⟨B', _, ok', sat_later b h⟩
theorem dss_never : PSs X sts (tS p W fNo) := PSs.imp pss_never fun D σ H h => by
  obtain ⟨B, s, ok, h⟩ := h
  exact h
theorem ds_never : PS X st (tS p W fNo) := PS.imp ps_never fun D σ H h => by
  obtain ⟨B, s, ok, h⟩ := h
  exact h
theorem ds_pass : PS X (.Pass pos) (tS p W fNx) := PS.imp ps_pass fun D σ H h => by
  obtain ⟨B, s, ok, h⟩ := h
  exact h σ B H (Same.refl _) ok
theorem ds_break : PS X (.Break pos) (tS p W fBk) := PS.imp ps_break fun D σ H h => by
  obtain ⟨B, s, ok, h⟩ := h
  exact h σ B H (Same.refl _) ok
theorem ds_continue : PS X (.Continue pos) (tS p W fCt) := PS.imp ps_continue fun D σ H h => by
  obtain ⟨B, s, ok, h⟩ := h
  exact h σ B H (Same.refl _) ok
theorem ds_doc {x j pos'} : PS X (.Expr (.Constant (.str x) j pos) pos') (tS p W fNx) := PS.imp ps_doc fun D σ H h => by
  obtain ⟨B, s, ok, h⟩ := h
  exact h σ B H (Same.refl _) ok
theorem ds_expr (he : PE X e (tE p W f)) (hs : swapsWith e none pos.line X.env = pure false := by rfl) : PS X (.Expr e pos) (tS p W (fDrop f)) := PS.imp (ps_expr he hs) fun D σ H h => by
  obtain ⟨B, s, ok, h⟩ := h
  refine ⟨B, s, ok, run_mono (run_sat h) fun r s1 B1 H1 x1 ok1 k v hv => ?_⟩
  exact k σ B1 H1 (Same.refl _) ok1
/-- a value given to a name: the name's slot is data, or a list of our own -/
theorem setI_of {i : Nat} {D : Ends} {σ : St} {H : Hp} (h : tS p W (fSetI i f) D σ H) : tE p W (fI f) σ H fun x H1 => D.nx (σ.set i (some x)) H1 := by
  obtain ⟨B, s, ok, h⟩ := h
  refine ⟨B, s, ok, run_mono (run_sat h) fun r s1 B1 H1 x1 ok1 k v hv => ?_⟩
  cases r with
  | tmp _ => exact k.elim
  | slot _ => exact k.elim
  | tmpd _ => exact k.elim
  | imm d =>
    dsimp only at k
    cases e : setD s1 i (.imm d) with
    | none =>
      rw [e] at k
      exact k.elim
    | some s2 =>
      rw [e] at k
      exact k _ B1 H1 (Same.refl _) (setD_imm ok1 hv e)
theorem setO_of {i : Nat} {D : Ends} {σ : St} {H : Hp} (h : tS p W (fSetO i f) D σ H) : tE p W f σ H fun x H1 => D.nx (σ.set i (some x)) H1 := by
  obtain ⟨B, s, ok, h⟩ := h
  refine ⟨B, s, ok, run_mono (run_sat h) fun r s1 B1 H1 x1 ok1 k v hv => ?_⟩
  cases r with
  | imm _ => exact k.elim
  | slot _ => exact k.elim
  | tmp xs =>
    dsimp only at k
    cases e : setD s1 i (.own xs) with
    | none =>
      rw [e] at k
      exact k.elim
    | some s2 =>
      rw [e] at k
      obtain ⟨a, vs, rfl, h0, h1, h2, h3, h4⟩ := hv
      exact k _ B1 H1 (Same.refl _) (setD_own (dv := .own xs) ok1 h4 (fun l => ⟨l, a, vs, rfl, ok.dom a h0, h1, h2, h3⟩) e)
  | tmpd ks =>
    dsimp only at k
    cases e : setD s1 i (.dct ks) with
    | none =>
      rw [e] at k
      exact k.elim
    | some s2 =>
      rw [e] at k
      obtain ⟨a, u, rfl, h0, h1, h2, h3, h4⟩ := hv
      exact k _ B1 H1 (Same.refl _) (setD_own (dv := .dct ks) ok1 h4 (fun l => ⟨l, a, u, rfl, ok.dom a h0, h1, h2, h3⟩) e)
theorem ds_setI (i : Nat) {x : Str} {pos' : Pos} (hN : X.N.Nodup) (he : PE X e (tE p W f)) (hi : X.N[i]? = some x := by rfl) (hx : Loc X.env.scope x := by first | exact Or.inl rfl | exact Or.inr rfl) (hs : swapsWith e (some (.Name x pos')) pos.line X.env = pure false := by rfl) (hf : X.fn x = true ∨ X.env.scope.names.lookup x = some .local := by first | exact .inl rfl | exact .inr rfl | assumption) :
    PS X (.Assign [.Name x pos'] e pos) (tS p W (fSetI i f)) := PS.imp (ps_set hN hi hx (de_imm he) hs hf) fun D σ H h => setI_of h
theorem ds_setO (i : Nat) {x : Str} {pos' : Pos} (hN : X.N.Nodup) (he : PE X e (tE p W f)) (hi : X.N[i]? = some x := by rfl) (hx : Loc X.env.scope x := by first | exact Or.inl rfl | exact Or.inr rfl) (hs : swapsWith e (some (.Name x pos')) pos.line X.env = pure false := by rfl) (hf : X.fn x = true ∨ X.env.scope.names.lookup x = some .local := by first | exact .inl rfl | exact .inr rfl | assumption) :
    PS X (.Assign [.Name x pos'] e pos) (tS p W (fSetO i f)) := PS.imp (ps_set hN hi hx he hs hf) fun D σ H h => setO_of h
/-- targets in a tuple -/
theorem ds_tgt {tg : Expr} {t : TG} {is : List Nat} {gg : D → SD → Option SD} (he : PE X e (tE p W f)) (ht : PG X tg t) (tq : TqD p t is gg) (hs : swapsWithSole [tg] e pos.line X.env = pure false := by rfl) (hw : swappedStores [tg] e X.env = pure none := by rfl)
    (h1 : (assignEach [tg] X.env).map (·.2) = [assign tg X.env] := by rfl) : PS X (.Assign [tg] e pos) (tS p W (fTgt gg f)) := PS.imp (ps_asg (de_imm he) ht hs hw h1) fun D σ H h => by
  obtain ⟨B, s, ok, h⟩ := h
  refine ⟨B, s, ok, run_mono (run_sat h) fun r s1 B1 H1 x1 ok1 k v hv => ?_⟩
  cases r with
  | tmp _ => exact k.elim
  | slot _ => exact k.elim
  | tmpd _ => exact k.elim
  | imm d =>
    dsimp only at k
    cases e : gg d s1 with
    | none =>
      rw [e] at k
      exact k.elim
    | some s2 =>
      rw [e] at k
      exact tq.run B1 H1 σ s1 s2 v d _ ok1 hv e fun vs _ ok2 => k _ B1 H1 (Same.refl _) ok2
theorem ds_if {a b : List Stmt} (hc : PT X c (tT p W u)) (ha : PSs X a (tS p W fs)) (hb : PSs X b (tS p W gs)) : PS X (.If c a b pos) (tS p W (fIfS u fs gs)) := PS.imp (ps_if hc ha hb) fun D σ H h => by
  obtain ⟨B, s, ok, h⟩ := h
  refine ⟨B, s, ok, run_mono (run_sat h) fun b s1 B1 H1 x1 ok1 k => ?_⟩
  cases b with
  | true =>
    rw [if_pos rfl]
    exact ⟨B1, s1, ok1, k⟩
  | false =>
    rw [if_neg Bool.false_ne_true]
    exact ⟨B1, s1, ok1, k⟩
theorem ds_ret (he : PE X e (tE p W f)) : PS X (.Return (some e) pos) (tS p W (fRet f)) := PS.imp (ps_ret he) fun D σ H h => by
  obtain ⟨B, s, ok, h⟩ := h
  refine ⟨B, s, ok, run_mono (run_sat h) fun r s1 B1 H1 x1 ok1 k v hv => ?_⟩
  cases r with
  | imm d => exact k σ B1 H1 v (Same.refl _) ok1 hv
  | tmp xs =>
    refine k σ B1 H1 v (Same.refl _) ok1 ?_
    exact RvOk.back (r := .tmp xs) ok.dom hv
  | tmpd ks =>
    refine k σ B1 H1 v (Same.refl _) ok1 ?_
    exact RvOk.back (r := .tmpd ks) ok.dom hv
  | slot i =>
    have gone : ∀ {dv : DV}, s1[i]? = some (some dv) → dv.mut = true → p.L i = none → ∀ a, σ[i]? = some (some (.ref a)) → StOk p B1 H1 σ (s1.set i none) ∧ ∀ j, ¬ Owns σ (s1.set i none) j a := fun {dv} q hm l a ha => by
      have hi := (List.getElem?_eq_some_iff.mp q).1
      have ow : ∀ j c, Owns σ (s1.set i none) j c → i ≠ j ∧ Owns σ s1 j c := fun j c o => by
        obtain ⟨o1, zs, o2, m⟩ := o
        by_cases ej : i = j
        · subst ej
          rw [List.getElem?_set_self hi] at o2
          cases o2
        · rw [List.getElem?_set_ne ej] at o2
          exact ⟨ej, o1, zs, o2, m⟩
      refine ⟨⟨by rw [List.length_set]; exact ok1.len, fun j dw v' e1 e2 => ?_, fun j k' c o1 o2 => ok1.sep j k' c (ow j c o1).2 (ow k' c o2).2, ok1.b0, ok1.bh, ok1.fr, ok1.dom, ok1.new, ok1.tb⟩, fun j o => (ow j a o).1 (ok1.sep i j a ⟨ha, dv, q, hm⟩ (ow j a o).2)⟩
      by_cases ej : i = j
      · subst ej
        rw [List.getElem?_set_self hi] at e1
        cases e1
        exact l
      · rw [List.getElem?_set_ne ej] at e1
        exact ok1.slot j dw v' e1 e2
    dsimp only at k
    split at k
    · rename_i xs q
      have hv : σ[i]? = some (some v) := hv
      obtain ⟨l, a, vs, e, hz, h1, h2, h3⟩ := ok1.slot i _ _ q hv
      cases e
      obtain ⟨ok2, nO⟩ := gone q rfl l a hv
      exact k σ B1 H1 _ (Same.refl _) ok2 ⟨a, vs, rfl, hz, h1, h2, h3, nO⟩
    · rename_i ks q
      have hv : σ[i]? = some (some v) := hv
      obtain ⟨l, a, u, e, hz, h1, h2, h3⟩ := ok1.slot i _ _ q hv
      cases e
      obtain ⟨ok2, nO⟩ := gone q rfl l a hv
      exact k σ B1 H1 _ (Same.refl _) ok2 ⟨a, u, rfl, hz, h1, h2, h3, nO⟩
    · exact k.elim
theorem ds_retN : PS X (.Return none pos) (tS p W fRetN) := PS.imp ps_retN fun D σ H h => by
  obtain ⟨B, s, ok, h⟩ := h
  exact h σ B H .non (Same.refl _) ok Dp.non

/-! ### stores to lists -/
def putAt (k : Int) (d : D) (xs : List D) : Option (List D) := (ixN xs.length k).map fun j => xs.set j d
/-- a list's own name -/
theorem slot_name {p : Pr} {B H : Hp} {σ : St} {s : SD} {i : Nat} {ys : List D} (ok : StOk p B H σ s) (e : view s (.slot i) = some (.list ys)) : ∃ a vs xs, σ[i]? = some (some (.ref a)) ∧ H a = some (.lst vs) ∧ DpAll p.K B vs xs ∧ (.list ys : D) = .list xs := by
  unfold view at e
  simp only [getS_eq] at e
  split at e
  · rename_i xs q
    cases e
    have hi := (List.getElem?_eq_some_iff.mp q).1
    have hσ : i < σ.length := by rw [ok.len]; exact hi
    obtain ⟨_, a, vs, e', _, h1, h2, h3⟩ := ok.slot i _ _ q (List.getElem?_eq_getElem hσ)
    exact ⟨a, vs, _, by rw [List.getElem?_eq_getElem hσ, e'], h1, h3, rfl⟩
  · rename_i xs q
    cases e
    have hi := (List.getElem?_eq_some_iff.mp q).1
    have hσ : i < σ.length := by rw [ok.len]; exact hi
    obtain ⟨a, vs, _, e', h1, h2, h3⟩ := ok.slot i _ _ q (List.getElem?_eq_getElem hσ)
    exact ⟨a, vs, _, by rw [List.getElem?_eq_getElem hσ, e'], h1, h3, rfl⟩
  · cases e
  · cases e
theorem setC_view {s s' : SD} {i : Nat} {f : List D → Option (List D)} (e : setC s i f = some s') : ∃ xs ys, view s (.slot i) = some (.list xs) ∧ f xs = some ys := by
  unfold setC at e
  rw [getS_eq] at e
  simp only [setS_eq] at e
  split at e
  · rename_i xs q
    cases ef : f xs with
    | none =>
      rw [ef] at e
      cases e
    | some ys => exact ⟨xs, ys, by unfold view; simp only [getS_eq, q], ef⟩
  · rename_i xs q
    cases ef : f xs with
    | none =>
      rw [ef] at e
      cases e
    | some ys => exact ⟨xs, ys, by unfold view; simp only [getS_eq, q], ef⟩
  · cases e
def fSub (i : Nat) (fi f : FE) : FS := fun s => (fI f s).stm fun r s1 => match r, view s1 (.slot i) with
  | .imm d, some (.list _) => (fi s1).stm fun r2 s2 => (match r2 with
    | .imm (.int k) => (match setC s2 i (putAt k d) with
      | some s3 => .nx s3
      | none => .no)
    | _ => .no)
  | _, _ => .no
theorem ds_sub (i : Nat) {x : Str} {px ps : Pos} {ei : Expr} (he : PE X e (tE p W f)) (hi : PE X ei (tE p W g)) (hN : X.N[i]? = some x := by rfl) (hv : Vis X.env.scope x := by first | exact Or.inl rfl | exact Or.inr (Or.inl rfl) | exact Or.inr (Or.inr rfl))
    (hd : (x == ("__debug__" : Str)) = false := by decide) (hcd : (x == ("__classdict__" : Str)) = false := by decide)
    (ha : ∀ v, assign (.Subscript (.Name x px) ei ps) X.env v = (do
      let ov ← holding [v] (eval (.Name x px) X.env)
      let iv ← holding [v, ov] (eval ei X.env)
      standAt ps
      holding [v, ov, iv] (setItem ov iv v)
      release [v, ov, iv] []) := by intro _; rfl)
    (hs : swapsWithSole [.Subscript (.Name x px) ei ps] e pos.line X.env = pure false := by rfl) (hw : swappedStores [.Subscript (.Name x px) ei ps] e X.env = pure none := by rfl)
    (h1 : (assignEach [.Subscript (.Name x px) ei ps] X.env).map (·.2) = [assign (.Subscript (.Name x px) ei ps) X.env] := by rfl) : PS X (.Assign [.Subscript (.Name x px) ei ps] e pos) (tS p W (fSub i g f)) :=
  PS.imp (ps_asg (de_imm he) (pg_sub (pe_var hN hv hd hcd) hi set_list ha) hs hw h1) fun Dn σ H h => by
  obtain ⟨B, s, ok, h⟩ := h
  refine ⟨B, s, ok, run_mono (run_sat h) fun r s1 B1 H1 x1 ok1 k v hv => ?_⟩
  cases r with
  | tmp _ => exact k.elim
  | slot _ => exact k.elim
  | tmpd _ => exact k.elim
  | imm d =>
    split at k
    rotate_left
    · exact k.elim
    · rename_i d' l e1 ev
      cases e1
      obtain ⟨a, _, _, hσ, _⟩ := slot_name ok1 ev
      refine ⟨_, hσ, B1, s1, ok1, run_mono (run_sat k) fun r2 s2 B2 H2 x2 ok2 k2 w hw => ?_⟩
      split at k2
      · rename_i kk
        cases es : setC s2 i (putAt kk d) with
        | none =>
          rw [es] at k2
          exact k2.elim
        | some s3 =>
          rw [es] at k2
          cases hw
          obtain ⟨xs, ys, ev2, ef⟩ := setC_view es
          obtain ⟨a2, vs, xs2, hσ2, hH, hd, ex⟩ := slot_name ok2 ev2
          rw [hσ] at hσ2
          cases hσ2
          cases ex
          unfold putAt at ef
          rw [← dps_len hd] at ef
          cases ei' : ixN vs.length kk with
          | none =>
            rw [ei'] at ef
            cases ef
          | some j =>
            refine ⟨a, vs, kk, j, rfl, rfl, hH, ei', ?_⟩
            have hd2 : Dp p.K B2 v d := dp_same x2.bb _ _ hv
            obtain ⟨ok3, _⟩ := setC_ok (ws := vs.set j v) ok2 hσ es fun xs' ys' vs' e1 e2 e3 e4 => by
              rw [ev2] at e1
              cases e1
              rw [hH] at e2
              cases e2
              unfold putAt at e4
              rw [← dps_len e3, ei'] at e4
              cases e4
              exact dps_set hd2 j e3
            exact k2 σ B2 _ (Same.refl _) ok3
      · exact k2.elim
/-- x.append(e) -/
def fApp (i : Nat) (f : FE) : FS := fun s => match view s (.slot i) with
  | some (.list _) => (fI f s).stm fun r s1 => (match r with
    | .imm d => (match setC s1 i (fun xs => if xs.length < mx then some (xs ++ [d]) else none) with
      | some s2 => .nx s2
      | none => .no)
    | _ => .no)
  | _ => .no
theorem ds_app (i : Nat) {x : Str} {px pa pc : Pos} (he : PE X e (tE p W f)) (hN : X.N[i]? = some x := by rfl) (hv : Vis X.env.scope x := by first | exact Or.inl rfl | exact Or.inr (Or.inl rfl) | exact Or.inr (Or.inr rfl))
    (hd : (x == ("__debug__" : Str)) = false := by decide) (hcd : (x == ("__classdict__" : Str)) = false := by decide)
    (ht : PE X (.Call (.Attribute (.Name x px) "append" pa) [e] [] pc) (tBM X.K "list" rAppend (tVar i) (tCons (tE p W (fI f)) tNil)))
    (hs : swapsWith (.Call (.Attribute (.Name x px) "append" pa) [e] [] pc) none pos.line X.env = pure false := by rfl) : PS X (.Expr (.Call (.Attribute (.Name x px) "append" pa) [e] [] pc) pos) (tS p W (fApp i f)) :=
  PS.imp (ps_expr ht hs) fun Dn σ H h => by
  obtain ⟨B, s, ok, h⟩ := h
  unfold fApp at h
  split at h
  rotate_left
  · exact h.elim
  · rename_i l ev
    obtain ⟨a, vs0, _, hσ, hH0, _⟩ := slot_name ok ev
    refine ⟨_, hσ, .inl ⟨rfl, _, .inl (.inl hH0)⟩, ⟨B, s, ok, run_mono (run_sat h) fun r s1 B1 H1 x1 ok1 k v hv => ?_⟩⟩
    cases r with
    | tmp _ => exact k.elim
    | slot _ => exact k.elim
    | tmpd _ => exact k.elim
    | imm d =>
      dsimp only at k
      cases es : setC s1 i (fun xs => if xs.length < mx then some (xs ++ [d]) else none) with
      | none =>
        rw [es] at k
        exact k.elim
      | some s3 =>
        rw [es] at k
        obtain ⟨xs, ys, ev2, ef⟩ := setC_view es
        obtain ⟨a2, vs, xs2, hσ2, hH, hdd, ex⟩ := slot_name ok1 ev2
        rw [hσ] at hσ2
        cases hσ2
        cases ex
        split at ef
        · rename_i hz
          refine ⟨a, vs, v, rfl, rfl, hH, by rw [dps_len hdd]; exact mx_lt (Nat.le_of_lt hz), ?_⟩
          obtain ⟨ok3, _⟩ := setC_ok (ws := vs ++ [v]) ok1 hσ es fun xs' ys' vs' e1 e2 e3 e4 => by
            rw [ev2] at e1
            cases e1
            rw [hH] at e2
            cases e2
            rw [if_pos hz] at e4
            cases e4
            exact dps_app e3 (.cons hv .nil)
          exact k σ B1 _ (Same.refl _) ok3
        · cases ef
/-- x op= e, whole numbers -/
def fAug (i : Nat) (h : Int → Int → Int) (f : FE) : FS := fun s => match s[i]? with
  | some (some (.imm (.int n))) => (f s).stm fun r s1 => (match r with
    | .imm (.int m) => (match setD s1 i (.imm (.int (h n m))) with
      | some s2 => .nx s2
      | none => .no)
    | _ => .no)
  | _ => .no
theorem ds_aug (i : Nat) {x : Str} {op : Operator} {h : Int → Int → Int} {pos' : Pos} (ho : PIp X op (ipI h)) (hN : X.N.Nodup) (he : PE X e (tE p W f)) (hi : X.N[i]? = some x := by rfl) (hx : Loc X.env.scope x := by first | exact Or.inl rfl | exact Or.inr rfl) (hf : X.fn x = true ∨ X.env.scope.names.lookup x = some .local := by first | exact .inl rfl | exact .inr rfl | assumption) :
    PS X (.AugAssign (.Name x pos') op e pos) (tS p W (fAug i h f)) := PS.imp (ps_aug hN hi hx he ho hf) fun Dn σ H hh => by
  obtain ⟨B, s, ok, hh⟩ := hh
  unfold fAug at hh
  split at hh
  · rename_i n q
    have hl := (List.getElem?_eq_some_iff.mp q).1
    have hσ : i < σ.length := by rw [ok.len]; exact hl
    obtain ⟨_, y, e', hy⟩ := ok.slot i _ _ q (List.getElem?_eq_getElem hσ)
    cases hy
    refine ⟨.int n, by rw [List.getElem?_eq_getElem hσ, e'], B, s, ok, run_mono (run_sat hh) fun r s1 B1 H1 x1 ok1 k v hv => ?_⟩
    split at k
    · rename_i m
      cases hv
      cases es : setD s1 i (.imm (.int (h n m))) with
      | none =>
        rw [es] at k
        exact k.elim
      | some s2 =>
        rw [es] at k
        exact ⟨n, m, rfl, rfl, k _ B1 H1 (Same.refl _) (setD_imm ok1 (Dp.int _) es)⟩
    · exact k.elim
  · exact hh.elim
/-- a, b = x, y: two names; the modes: data, or a list of our own -/
def setM (m : Bool) (s : SD) (i : Nat) : RV → Option SD
  | .imm d => if m then none else setD s i (.imm d)
  | .tmp xs => if m then setD s i (.own xs) else none
  | .slot _ => none
  | .tmpd ks => if m then setD s i (.dct ks) else none
def fPar (i j : Nat) (m n : Bool) (f : FA) : FS := fun s => (f s).stm fun rs s1 => match rs with
  | [r1, r2] => if m && n then .no else (match setM m s1 i r1 with
    | some s2 => (match setM n s2 j r2 with
      | some s3 => .nx s3
      | none => .no)
    | none => .no)
  | _ => .no
theorem ds_par (i j : Nat) (m n : Bool) {x y : Str} {a b : Expr} {fa : FA} {px py pt : Pos} {kt k2 pt2} (hc : X.calm = true) (hN : X.N.Nodup) (ha : PA X [a, b] (tA p W fa)) (hij : i ≠ j) (hi : X.N[i]? = some x := by rfl) (hj : X.N[j]? = some y := by rfl)
    (hx : X.env.scope.names.lookup x = some .local := by rfl) (hy : X.env.scope.names.lookup y = some .local := by rfl)
    (hw : swappedStores [.Tuple [.Name x px, .Name y py] kt pt] (.Tuple [a, b] k2 pt2) X.env = pure (some [x, y]) := by rfl)
    (hs : swapsWithSole [.Tuple [.Name x px, .Name y py] kt pt] (.Tuple [a, b] k2 pt2) pos.line X.env = pure false := by rfl) :
    PS X (.Assign [.Tuple [.Name x px, .Name y py] kt pt] (.Tuple [a, b] k2 pt2) pos) (tS p W (fPar i j m n fa)) := PS.imp (ps_par hc hN hi hj hij hx hy ha hw hs) fun Dn σ H hh => by
  obtain ⟨B, s, ok, hh⟩ := hh
  refine ⟨B, s, ok, run_mono (run_sat hh) fun rs s1 B1 H1 x1 ok1 k vs hvs => ?_⟩
  split at k
  · rename_i r1 r2
    cases hvs with
    | cons h1 t1 =>
      cases t1 with
      | cons h2 t2 =>
        cases t2
        refine ⟨_, _, rfl, ?_⟩
        split at k
        · exact k.elim
        · rename_i hmn
          cases e1 : setM m s1 i r1 with
          | none =>
            rw [e1] at k
            exact k.elim
          | some s2 =>
            rw [e1] at k
            dsimp only at k
            cases e2 : setM n s2 j r2 with
            | none =>
              rw [e2] at k
              exact k.elim
            | some s3 =>
              rw [e2] at k
              unfold setM at e1 e2
              have nown : ∀ {dv : DV} {w : V} {c : Addr} {s2 : SD}, setD s1 i dv = some s2 → (∀ k, ¬ Owns σ s1 k c) → dv.mut = false → ∀ k, ¬ Owns (σ.set i (some w)) s2 k c := fun {dv w c s2} e n n1 k o => by
                unfold setD at e
                rw [getS_eq] at e
                simp only [setS_eq] at e
                split at e
                · cases e
                · cases e
                  obtain ⟨o1, x, o2, m⟩ := o
                  by_cases ek : i = k
                  · subst ek
                    have hi : i < s1.length := by
                      have := (List.getElem?_eq_some_iff.mp o2).1
                      simpa using this
                    rw [List.getElem?_set_self hi] at o2
                    cases o2
                    rw [n1] at m
                    cases m
                  · rw [List.getElem?_set_ne ek] at o1 o2
                    exact n k ⟨o1, x, o2, m⟩
                · cases e
              cases r1 with
              | slot _ => cases e1
              | imm d1 =>
                cases m with
                | true => cases e1
                | false =>
                  have ok2 := setD_imm ok1 h1 e1
                  cases r2 with
                  | slot _ => cases e2
                  | imm d2 =>
                    cases n with
                    | true => cases e2
                    | false => exact k _ B1 H1 (Same.refl _) (setD_imm ok2 h2 e2)
                  | tmp xs =>
                    cases n with
                    | false => cases e2
                    | true =>
                      obtain ⟨c, us, rfl, g0, g1, g2, g3, g4⟩ := h2
                      exact k _ B1 H1 (Same.refl _) (setD_own (dv := .own xs) ok2 (nown e1 g4 rfl) (fun l => ⟨l, c, us, rfl, ok.dom c g0, g1, g2, g3⟩) e2)
                  | tmpd ks =>
                    cases n with
                    | false => cases e2
                    | true =>
                      obtain ⟨c, us, rfl, g0, g1, g2, g3, g4⟩ := h2
                      exact k _ B1 H1 (Same.refl _) (setD_own (dv := .dct ks) ok2 (nown e1 g4 rfl) (fun l => ⟨l, c, us, rfl, ok.dom c g0, g1, g2, g3⟩) e2)
              | tmp xs =>
                cases m with
                | false => cases e1
                | true =>
                  obtain ⟨c, us, rfl, g0, g1, g2, g3, g4⟩ := h1
                  have ok2 := setD_own (dv := .own xs) ok1 g4 (fun l => ⟨l, c, us, rfl, ok.dom c g0, g1, g2, g3⟩) e1
                  cases r2 with
                  | slot _ => cases e2
                  | tmp _ =>
                    cases n with
                    | false => cases e2
                    | true => exact absurd rfl hmn
                  | tmpd _ =>
                    cases n with
                    | false => cases e2
                    | true => exact absurd rfl hmn
                  | imm d2 =>
                    cases n with
                    | true => cases e2
                    | false => exact k _ B1 H1 (Same.refl _) (setD_imm ok2 h2 e2)
              | tmpd ks =>
                cases m with
                | false => cases e1
                | true =>
                  obtain ⟨c, us, rfl, g0, g1, g2, g3, g4⟩ := h1
                  have ok2 := setD_own (dv := .dct ks) ok1 g4 (fun l => ⟨l, c, us, rfl, ok.dom c g0, g1, g2, g3⟩) e1
                  cases r2 with
                  | slot _ => cases e2
                  | tmp _ =>
                    cases n with
                    | false => cases e2
                    | true => exact absurd rfl hmn
                  | tmpd _ =>
                    cases n with
                    | false => cases e2
                    | true => exact absurd rfl hmn
                  | imm d2 =>
                    cases n with
                    | true => cases e2
                    | false => exact k _ B1 H1 (Same.refl _) (setD_imm ok2 h2 e2)
  · exact k.elim
end
end DL
end

set_option Elab.async false
set_option linter.all false
set_option maxRecDepth 100000
set_option maxHeartbeats 4000000
noncomputable section
namespace DL
open PySem PySem.Spec PyProof.Rows L2

/-! ### try: several clauses, with and without a name -/
abbrev Cl := Value × Option Nat × (Addr → Value → Option Addr → TS)
def dropAt (i : Nat) (D : Ends) : Ends := { nx := fun σ' H' => D.nx (σ'.set i none) H', rt := D.rt, bk := fun σ' H' => D.bk (σ'.set i none) H', ct := fun σ' H' => D.ct (σ'.set i none) H' }
def wMix (K : PySem.W.Frag) (Wout : WX) (D : Ends) : List Cl → WX
  | [] => Wout
  | (c, none, ts) :: r => fun cls d σ H => ∃ b, PySem.W.exmOne K cls c = some b ∧ (b = true → ∀ a, H a = none → ts a cls d D σ H) ∧ (b = false → wMix K Wout D r cls d σ H)
  | (c, some i, ts) :: r => fun cls d σ H => ∃ b, PySem.W.exmOne K cls c = some b ∧ (b = true → ∀ a, H a = none → ts a cls d (dropAt i D) (σ.set i (some (.ref a))) H) ∧ (b = false → wMix K Wout D r cls d σ H)
inductive HdMix (X : Cx) : List ExceptHandler → List Cl → Prop
  | nil : HdMix X [] []
  | cons {x : Str} {c : Value} {ts : Addr → Value → Option Addr → TS} {b₀ : Stmt} {suite : List Stmt} {np pos' : Pos} {hds : List ExceptHandler} {l : List Cl} (hc : Names X x c)
      (hsu : ∀ (a : Addr) (oe : Obj) (cls : Value) (d : Option Addr) (pn : List (Addr × Obj)), Zc cls d oe → (∃ vs, oe.data = .fields vs) → PSs (X.suite a ((a, oe) :: pn)) (b₀ :: suite) (ts a cls d)) (r : HdMix X hds l) :
      HdMix X (.ExceptHandler (some (.Name x np)) none (b₀ :: suite) pos' :: hds) ((c, none, ts) :: l)
  | consAs {x n : Str} {i : Nat} {c : Value} {ts : Addr → Value → Option Addr → TS} {b₀ : Stmt} {suite : List Stmt} {np pos' : Pos} {hds : List ExceptHandler} {l : List Cl} (hc : Names X x c) (hi : X.N[i]? = some n) (hln : X.env.kindOf n = some .local)
      (hsu : ∀ (a : Addr) (oe : Obj) (cls : Value) (d : Option Addr) (pn : List (Addr × Obj)), Zc cls d oe → (∃ vs, oe.data = .fields vs) → PSs (X.suite a ((a, oe) :: pn)) (b₀ :: suite) (ts a cls d)) (r : HdMix X hds l) :
      HdMix X (.ExceptHandler (some (.Name x np)) (some n) (b₀ :: suite) pos' :: hds) ((c, some i, ts) :: l)
section
variable {X : Cx} {body : List Stmt} {h₀ : ExceptHandler} {hds : List ExceptHandler} {l : List Cl} {pos : Pos} {tb : WX → TS} {Wout : WX}
theorem ps_try_mix (hs : X.stack = X.env :: X.outer) (hf : X.env.frame = some X.env.locals) (hN : X.N.Nodup) (tk : Takes X Wout)
    (hb : ∀ (W : WX) (pn : List (Addr × Obj)) (xe : Value → Shared → Prop), Takes (X.tr pn xe) W → PassesOwn (model X.prog X.w) X.A X.env xe → PSs (X.tr pn xe) body (tb W))
    (hh : HdMix X (h₀ :: hds) l) : PS X (.Try body (h₀ :: hds) [] [] pos) (fun D σ H => tb (wMix X.K Wout D l) D σ H) := by
  refine ⟨fun pins s σ H D I h => ?_⟩
  have ok := I.ok
  have hfr : X.A.frames = some (X.env :: X.outer) := by rw [ok.frames, hs]
  refine wpAny_Try_except ?_
  refine wpAny_mono ((hb (wMix X.K Wout D l) (X.pn ++ pins) (fun e s₁ => wpAny (model X.prog X.w) X.A (noteFrame e X.env) (fun _ s₂ => wpAny (model X.prog X.w) X.A (setFlight e none) (fun _ s₃ =>
    wpAny (model X.prog X.w) X.A (handleBy e X.env (h₀ :: hds)) (SP X pins D) X.xe s₃) X.xe s₂) X.xe s₁) (fun u s' xx => ?_) PassesOwn.looking).run [] s σ H D (I.toTry _) h) (fun f s1 hsp => ?_) (fun e s1 he => he)
  · -- the catch
    obtain ⟨a, B, sI, pins', σ', H', cls, d, rfl, J', nb, up, sky, na, os, ag, w⟩ := xx
    have J : L2.Inv X pins σ' H' sI := J'.ofTry ok
    have sky' : Sky B (X.env :: X.outer) a (Zc cls d) X.env.locals s'.heap := by rw [← hs]; exact sky
    show wpAny (model X.prog X.w) X.A (noteFrame (.ref a) X.env) _ _ _
    refine Sky.land Zc.steady hfr hf sky' fun h3 fl3 up3 => ?_
    have J3 : L2.Inv X pins σ' H' { s' with heap := h3 } := J.landed nb fl3.1 (up.trans up3) os ag
    obtain ⟨oe3, vs3, he3, hz3, hd3⟩ := fl3.there
    have notFr : ∀ {h : Heap} {o : Obj} {vs : Array Value}, h.FunFrames B (X.env :: X.outer) → h.get? a = some o → o.data = .fields vs → a ∉ frs (X.env :: X.outer) := fun {h o vs} ff e dd hm => by
      obtain ⟨_, o', e', hnf⟩ := ff.mem hm
      rw [e] at e'; cases e'
      exact hnf _ dd
    have nfr := notFr fl3.2.2.1 he3 hd3
    have nL : a ≠ X.env.locals := fun z => nfr (List.mem_filterMap.mpr ⟨X.env, List.mem_cons_self, by rw [hf, z]⟩)
    have nF : a ∉ X.fs := fun hm => by
      obtain ⟨e, he, q⟩ := List.mem_filterMap.mp hm
      exact nfr (List.mem_filterMap.mpr ⟨e, List.mem_cons_of_mem _ he, q⟩)
    have S3 := J3.suite he3 hd3 na nL nF
    have test : ∀ {x : Str} {c : Value} {np : Pos}, Names X x c → ∀ {Q : Value → Shared → Prop} {E : Value → Shared → Prop}, Q c { s' with heap := h3 } → wpAny (model X.prog X.w) (X.A.mark (some (.ref a))) (eval (.Name x np) X.env) Q E { s' with heap := h3 } := fun {x c np} hc {Q E} q => by
      obtain ⟨hg, hdbg, hm | ⟨hm, hv, hnn⟩⟩ := hc
      · exact ld_glob (X := X.suite a ((a, oe3) :: (X.pn ++ pins))) S3 hg hm q hdbg
      · exact ld_blt (X := X.suite a ((a, oe3) :: (X.pn ++ pins))) S3 hg hm hv q hnn hdbg
    have LT : PySem.W.Looks (model X.prog X.w) h3 (typeOf (.ref a)) cls := fun A Q E s k q => wpAny_typeOf_ref (k _ _ he3) (by rw [hz3.1]; exact q)
    have go : ∀ {hds' : List ExceptHandler} {l' : List Cl}, HdMix X hds' l' → wMix X.K Wout D l' cls d σ' H' →
        wpAny (model X.prog X.w) X.A (handleBy (.ref a) X.env hds') (SP X pins D) X.xe { s' with heap := h3 } := by
      intro hds' l' hk
      induction hk with
      | nil =>
        intro w
        refine wpAny_handleBy_nil ?_
        obtain ⟨k1, k2, k3, oe, vs, T, oT, ts', he, hz, hd, h1, hr⟩ := id fl3
        unfold PySem.passOn
        refine wpAny_bind (wpAny_field he hd h1 ?_)
        rw [if_neg (show ¬ ((Value.ref T == Value.none) = true) from by simp)]
        have fin : wpAny (model X.prog X.w) X.A (setFlight (.ref a) X.env.frame) (fun _ s4 => wpAny (model X.prog X.w) X.A (throw (.ref a) : Sem Flow) (SP X pins D) X.xe s4) X.xe { s' with heap := h3 } := by
          rw [hf]
          refine HandSPX.setFlight_upZ fl3 fun h4 hh4 up4 => wpAny_throw (tk _ _ ?_)
          exact ⟨a, B, sI, pins, σ', H', cls, d, rfl, J, nb, (up.trans up3).trans up4, .inr (.inr (by rw [hs]; exact hh4)), na, os, ag, w⟩
        first
          | exact wpAny_bind (wpAny_pure (wpAny_bind fin))
          | exact wpAny_bind fin
      | @cons x c ts b₀ suite np pos' hds2 l2 hc hsu r ih =>
        intro w
        obtain ⟨b, hb1, hyes, hno⟩ := w
        refine wpAny_handleBy_cons (codeAny_handlers_test ?_) (by intro q; cases q)
        have LM := PySem.W.exm_one (M := model X.prog X.w) (J3.kIn) LT hb1
        refine test hc (LM.here ?_)
        cases b with
        | true =>
          refine codeAny_handlers_suite ?_
          refine HandSPX.lands_againZ fl3 fun h4 fl4 up4 => ?_
          have J4 : L2.Inv X pins σ' H' { s' with heap := h4 } := J.landed nb fl4.1 ((up.trans up3).trans up4) os ag
          obtain ⟨oe4, vs4, he4, hz4, hd4⟩ := fl4.there
          have S4 := J4.suite he4 hd4 na nL nF
          refine wpAny_mono ((hsu a oe4 cls d (X.pn ++ pins) hz4 ⟨_, hd4⟩).run [] _ _ H' _ S4 (hyes rfl a na)) (fun f s6 hsp => ?_) (fun _ _ z => False.elim z)
          cases f with
          | next =>
            obtain ⟨σ6, H6, S6, q6⟩ := hsp
            exact ⟨_, _, S6.unsuite ok, q6⟩
          | brk =>
            obtain ⟨σ6, H6, S6, q6⟩ := hsp
            exact ⟨_, _, S6.unsuite ok, q6⟩
          | cont =>
            obtain ⟨σ6, H6, S6, q6⟩ := hsp
            exact ⟨_, _, S6.unsuite ok, q6⟩
          | ret u =>
            obtain ⟨v6, σ6, H6, S6, r6, q6⟩ := hsp
            exact ⟨_, _, _, S6.unsuite ok, r6, q6⟩
        | false =>
          show wpAny _ X.A (handleBy (.ref a) X.env hds2) _ _ _
          exact ih (hno rfl)
      | @consAs x n i c ts b₀ suite np pos' hds2 l2 hc hi hln hsu r ih =>
        intro w
        obtain ⟨b, hb1, hyes, hno⟩ := w
        have hloc : Loc X.env.scope n := .inl hln
        refine wpAny_handleBy_cons (codeAny_handlers_test ?_) (by intro q; cases q)
        have LM := PySem.W.exm_one (M := model X.prog X.w) (J3.kIn) LT hb1
        refine test hc (LM.here ?_)
        cases b with
        | true =>
          refine codeAny_handlers_suite_as ?_
          refine HandSPX.lands_againZ fl3 fun h4 fl4 up4 => ?_
          have J4 : L2.Inv X pins σ' H' { s' with heap := h4 } := J.landed nb fl4.1 ((up.trans up3).trans up4) os ag
          obtain ⟨oe4, vs4, he4, hz4, hd4⟩ := fl4.there
          have S4 := J4.suite he4 hd4 na nL nF
          refine store_ok (X := X.suite a ((a, oe4) :: (X.pn ++ pins))) (v := .ref a) S4 hN hi hloc rfl (fun s5 S5 => ?_) (.inr hln)
          refine wpAny_mono ((hsu a oe4 cls d (X.pn ++ pins) hz4 ⟨_, hd4⟩).run [] s5 _ H' _ S5 (hyes rfl a na)) (fun f s6 hsp => ?_) (fun _ _ z => False.elim z)
          have end_ : ∀ {σ6 : St} {H6 : Hp} {Q : Shared → Prop}, L2.Inv (X.suite a ((a, oe4) :: (X.pn ++ pins))) [] σ6 H6 s6 → (∀ s7, L2.Inv X pins (σ6.set i none) H6 s7 → Q s7) →
              wpAny (model X.prog X.w) X.A (do bindName X.env n .none; unbindBehindTheSuite X.env n pos') (fun _ s7 => Q s7) X.xe s6 := fun {σ6 H6 Q} S6 hq => gone_ok (S6.unsuite ok) hN hi hln hq
          cases f with
          | next =>
            obtain ⟨σ6, H6, S6, q6⟩ := hsp
            exact end_ S6 fun s7 J7 => ⟨_, _, J7, q6⟩
          | brk =>
            obtain ⟨σ6, H6, S6, q6⟩ := hsp
            exact end_ S6 fun s7 J7 => ⟨_, _, J7, q6⟩
          | cont =>
            obtain ⟨σ6, H6, S6, q6⟩ := hsp
            exact end_ S6 fun s7 J7 => ⟨_, _, J7, q6⟩
          | ret u =>
            obtain ⟨v6, σ6, H6, S6, r6, q6⟩ := hsp
            exact end_ S6 fun s7 J7 => ⟨_, _, _, J7, r6, q6⟩
        | false =>
          show wpAny _ X.A (handleBy (.ref a) X.env hds2) _ _ _
          exact ih (hno rfl)
    exact go hh w
  · cases f with
    | next =>
      obtain ⟨σ', H', J', q⟩ := hsp
      exact wpAny_execs_nil ⟨σ', H', J'.ofTry ok, q⟩
    | brk =>
      obtain ⟨σ', H', J', q⟩ := hsp
      exact ⟨σ', H', J'.ofTry ok, q⟩
    | cont =>
      obtain ⟨σ', H', J', q⟩ := hsp
      exact ⟨σ', H', J'.ofTry ok, q⟩
    | ret u =>
      obtain ⟨v, σ', H', J', r, q⟩ := hsp
      exact ⟨v, σ', H', J'.ofTry ok, r, q⟩
end

/-! ### X(), X a class of errors without __init__ -/
theorem pmk_own0 {X : Cx} {C : Addr} {bmB : List Value} {B newId initId : String} {x : Str} {p pos : Pos} (F : ExcBaseFacts B newId initId bmB) (q : PySem.W.excIn X.K C bmB newId = true) (gC : X.mg x = some (.ref C)) (kC : PySem.W.keepIn X.K (.ref C) = true) (r : Raises X (.ref C)) (hg : Gl X x)
    (hdb : (x == ("__debug__" : Str)) = false := by decide) : PMk X (.Call (.Name x p) [] [] pos) (fun _ H Q => Q (.ref C) none H) := by
  intro pins s σ H Q I h
  refine wpAny_Call_Name_kw (ld_glob I hg gC ?_ hdb)
  refine PySem.W.callWith_K0 I.kIn kC ?_
  show wpAny _ _ (call (.ref C) []) _ _ _
  obtain ⟨bm, N, nm, qn, bs, hdct, sn, sub, ab, col, dd, k0, k1, k2, k3, k5, mN, hC, hN, hni, T⟩ := exc_obj I.kIn q
  refine wpAny_call_exc_subT F T hC hN hni (fun h' e hm => ?_) (by show 0 ≤ sizeLine; exact Nat.zero_le _)
  exact mk_of I hm r h (I.hok.gone hm.new)
end DL
end

set_option Elab.async false
set_option linter.all false
set_option maxRecDepth 100000
set_option maxHeartbeats 4000000
noncomputable section
namespace DL
open PySem PySem.Spec PyProof.Rows L2

/-! ### what a def promises, by data -/
def lentL (vs : List V) (as : List AV) : Nat → Option Addr := fun i => match as[i]?, vs[i]? with
  | some (.lent _), some (.ref a) => some a
  | _, _ => none
structure ArgsOk (K : PySem.W.Frag) (B H : Hp) (vs : List V) (as : List AV) : Prop where
  len : vs.length = as.length
  imm : ∀ (i : Nat) (d : D), as[i]? = some (.imm d) → ∃ v, vs[i]? = some v ∧ Dp K B v d
  lent : ∀ (i : Nat) (xs : List D), as[i]? = some (.lent xs) → ∃ a us, vs[i]? = some (.ref a) ∧ H a = some (.lst us) ∧ B a = none ∧ DpAll K B us xs
  sep : ∀ (i j : Nat) (a : Addr), lentL vs as i = some a → lentL vs as j = some a → i = j
  tb : ∀ b xs, H b = some (.tup xs) → B b = some (.tup xs)
structure CallPost (K : PySem.W.Frag) (L : Nat → Option Addr) (B H B' H' : Hp) (as' : List AV) : Prop where
  bb : Same B B'
  bh : Same B' H'
  fr : ∀ b o, H b = some o → (∀ i, L i ≠ some b) → H' b = some o
  dom : ∀ b, H' b = none → H b = none
  new : ∀ b, H b ≠ none → B b = none → B' b = none
  lent : ∀ (i : Nat) (a : Addr) (xs : List D), L i = some a → as'[i]? = some (.lent xs) → ∃ us, H' a = some (.lst us) ∧ B' a = none ∧ DpAll K B' us xs
  tb : ∀ b xs, H' b = some (.tup xs) → B' b = some (.tup xs)
def RetOk (K : PySem.W.Frag) (Z B' H' : Hp) (v : V) : RV → Prop
  | .imm d => Dp K B' v d
  | .tmp xs => ∃ a us, v = .ref a ∧ Z a = none ∧ H' a = some (.lst us) ∧ B' a = none ∧ DpAll K B' us xs
  | .slot _ => False
  | .tmpd ks => ∃ a u, v = .ref a ∧ Z a = none ∧ H' a = some u ∧ B' a = none ∧ DcOk K B' u ks
def spD (K : PySem.W.Frag) (C : Nat → Option Addr) (fld : Nat → Str) (F : List AV → RF) : Sp := fun vs H Q E => ∃ B as, Same B H ∧ ArgsOk K B H vs as ∧ match F as with
  | .ret r as' => ∀ B' H' v, CallPost K (lentL vs as) B H B' H' as' → RetOk K H B' H' v r → Q v H'
  | .exc e as' => ∀ B' H' cls d, CallPost K (lentL vs as) B H B' H' as' → ExAt K C fld H B' H' e cls d → E cls d H'
  | .no => False

/-! ### a def's function from its body's -/
def av1 : AV → Option DV
  | .imm d => some (.imm d)
  | .lent xs => some (.lent xs)
def s0 (as : List AV) (n : Nat) : SD := as.map av1 ++ List.replicate (n - as.length) none
def outA : List AV → SD → Option (List AV)
  | [], _ => some []
  | .imm d :: as, _ :: s => (outA as s).map (.imm d :: ·)
  | .lent _ :: as, some (.lent xs) :: s => (outA as s).map (.lent xs :: ·)
  | _, _ => none
theorem outA_get : ∀ {as as' : List AV} {s : SD} {i : Nat} {xs : List D}, outA as s = some as' → as'[i]? = some (.lent xs) → s[i]? = some (some (.lent xs))
  | [], _, _, i, xs, h, e => by
    cases h
    simp at e
  | .imm d :: as, as', [], i, xs, h, e => by cases h
  | .lent _ :: as, as', [], i, xs, h, e => by cases h
  | .imm d :: as, as', x :: s, i, xs, h, e => by
    unfold outA at h
    cases q : outA as s with
    | none =>
      rw [q] at h
      cases h
    | some bs =>
      rw [q] at h
      cases h
      cases i with
      | zero => cases e
      | succ i => exact outA_get (i := i) q e
  | .lent ys :: as, as', x :: s, i, xs, h, e => by
    match x, h with
    | none, h => cases h
    | some (.imm _), h => cases h
    | some (.own _), h => cases h
    | some .exc, h => cases h
    | some (.dct _), h => cases h
    | some (.lent zs), h =>
      unfold outA at h
      cases q : outA as s with
      | none =>
        rw [q] at h
        cases h
      | some bs =>
        rw [q] at h
        cases h
        cases i with
        | zero =>
          cases e
          rfl
        | succ i => exact outA_get (i := i) q e
def mkF (m n : Nat) (body : FS) : List AV → RF := fun as => if as.length = m then (match body (s0 as n) with
  | .nx s => (match outA as s with
    | some as' => .ret (.imm .none) as'
    | none => .no)
  | .rt (.imm d) s => (match outA as s with
    | some as' => .ret (.imm d) as'
    | none => .no)
  | .rt (.tmp xs) s => (match outA as s with
    | some as' => .ret (.tmp xs) as'
    | none => .no)
  | .rt (.tmpd ks) s => (match outA as s with
    | some as' => .ret (.tmpd ks) as'
    | none => .no)
  | .ex e s => (match outA as s with
    | some as' => .exc e as'
    | none => .no)
  | _ => .no) else .no
theorem s0_get {as : List AV} {n i : Nat} {dv : Option DV} (h : (s0 as n)[i]? = some dv) : (∃ a, as[i]? = some a ∧ dv = av1 a) ∨ (as[i]? = none ∧ dv = none) := by
  unfold s0 at h
  by_cases hi : i < as.length
  · rw [List.getElem?_append_left (by simpa using hi), List.getElem?_map, List.getElem?_eq_getElem hi] at h
    exact .inl ⟨as[i], List.getElem?_eq_getElem hi, (Option.some.inj h).symm⟩
  · rw [List.getElem?_append_right (by simpa using hi), List.getElem?_replicate] at h
    split at h
    · exact .inr ⟨List.getElem?_eq_none (by omega), (Option.some.inj h).symm⟩
    · cases h
theorem start_get {N : List Str} {vs : List V} {i : Nat} {v : Option V} (h : (L2.start N vs)[i]? = some v) : v = vs[i]? ∨ (vs[i]? = none ∧ v = none) := by
  unfold L2.start at h
  by_cases hi : i < vs.length
  · rw [List.getElem?_append_left (by simpa using hi), List.getElem?_map, List.getElem?_eq_getElem hi] at h
    rw [List.getElem?_eq_getElem hi]
    exact .inl (Option.some.inj h).symm
  · rw [List.getElem?_append_right (by simpa using hi), List.getElem?_replicate] at h
    split at h
    · exact .inr ⟨List.getElem?_eq_none (by omega), (Option.some.inj h).symm⟩
    · cases h
abbrev pr (K : PySem.W.Frag) (Z B0 : Hp) (L : Nat → Option Addr) (C : Nat → Option Addr) (fld : Nat → Str) (xa : Option Addr) : Pr := ⟨K, Z, B0, L, C, fld, xa⟩
theorem start_ok {K : PySem.W.Frag} {C : Nat → Option Addr} {fld : Nat → Str} {N : List Str} {vs : List V} {as : List AV} {B H : Hp} (bh : Same B H) (ao : ArgsOk K B H vs as) : StOk (pr K H B (lentL vs as) C fld none) B H (L2.start N vs) (s0 as N.length) := by
  have ow : ∀ {i : Nat} {a : Addr}, Owns (L2.start N vs) (s0 as N.length) i a → lentL vs as i = some a := fun {i a} o => by
    obtain ⟨o1, x, o2, m⟩ := o
    rcases s0_get o2 with ⟨y, e1, e2⟩ | ⟨_, e2⟩
    · cases y with
      | imm d =>
        cases e2
        cases m
      | lent ys =>
        rcases start_get o1 with z | ⟨_, z⟩
        · unfold lentL
          rw [e1, ← z]
        · cases z
    · cases e2
  refine ⟨?_, fun i dv v e1 e2 => ?_, fun i j a o1 o2 => ao.sep i j a (ow o1) (ow o2), Same.refl _, bh, fun _ _ h _ => h, fun _ h => h, fun _ _ h => h, ao.tb⟩
  · unfold L2.start s0
    rw [List.length_append, List.length_append, List.length_map, List.length_map, List.length_replicate, List.length_replicate, ao.len]
  · rcases s0_get e1 with ⟨x, ex, ed⟩ | ⟨ex, ed⟩
    · subst ed
      cases x with
      | imm d =>
        obtain ⟨w, hw, hd⟩ := ao.imm i d ex
        refine ⟨by show lentL vs as i = none; unfold lentL; rw [ex], w, ?_, hd⟩
        rcases start_get e2 with z | ⟨z, _⟩
        · rw [z, hw]
        · rw [hw] at z
          cases z
      | lent xs =>
        obtain ⟨a, us, hw, h1, h2, h3⟩ := ao.lent i xs ex
        refine ⟨a, us, by show lentL vs as i = some a; unfold lentL; rw [ex, hw], ?_, h1, h2, h3⟩
        rcases start_get e2 with z | ⟨z, _⟩
        · rw [z, hw]
        · rw [hw] at z
          cases z
    · subst ed
      show lentL vs as i = none
      unfold lentL
      rw [ex]
theorem post_of {p : Pr} {B' H' : Hp} {σ' : St} {s' : SD} {as as' : List AV} (ok : StOk p B' H' σ' s') (e : outA as s' = some as') : CallPost p.K p.L p.B0 p.Z B' H' as' :=
  ⟨ok.b0, ok.bh, ok.fr, ok.dom, ok.new, fun i a xs hl ha => by
    have q := outA_get e ha
    have hi := (List.getElem?_eq_some_iff.mp q).1
    obtain ⟨b, us, h1, _, h2, h3, h4⟩ := ok.slot i _ _ q (List.getElem?_eq_getElem (by rw [ok.len]; exact hi))
    rw [hl] at h1
    cases h1
    exact ⟨us, h2, h3, h4⟩, ok.tb⟩
section
variable {P : Program} {w : World} {K : PySem.W.Frag} {mg : Str → Option Value} {base : Heap}
/-- THE RULE for a def: its body read as a function of slots -/
theorem fn_okD {x qual : Str} {st : Stmt} {f : Addr} {fd : FuncData} {N ps : List Str} {k : Nat} {C : Nat → Option Addr} {fld : Nat → Str} {body : FS} (F : Fun K x qual st f fd) (S : FnScope N ps (defScope st))
    (hb : ∀ (cdv : Value) (A : Around) (outer : List Env) (s : Shared) (H : Hp) (E : XK) (Z B0 : Hp) (L : Nat → Option Addr), Room k (A.deeper (envOfC qual (defScope st) s.heap.objs.size f cdv)) →
      PSs (cxOf (L2.CX P w) P w K mg base N qual (defScope st) f cdv A outer s H E) (defBody st) (tS (pr K Z B0 L C fld none) (fun cls d _ H => E cls d H) body)) :
    FnOk P w K mg base (L2.CX P w) (k + 1) f fd ps (spD K C fld (mkF ps.length N.length body)) := by
  refine F.okX S (fun vs H Q E h => ?_) (fun cdv A outer s H vs Q E hr h => ?_)
  · obtain ⟨B, as, bh, ao, h⟩ := h
    unfold mkF at h
    split at h
    · rename_i r as' hF
      split at hF
      · rename_i hl
        rw [ao.len, hl]
      · cases hF
    · rename_i r as' hF
      split at hF
      · rename_i hl
        rw [ao.len, hl]
      · cases hF
    · exact h.elim
  · obtain ⟨B, as, bh, ao, h⟩ := h
    refine ⟨_, hb cdv A outer s H E H B (lentL vs as) hr, B, s0 as N.length, start_ok bh ao, ?_⟩
    unfold mkF at h
    by_cases hl : as.length = ps.length
    rotate_left
    · rw [if_neg hl] at h
      exact h.elim
    rw [if_pos hl] at h
    cases eb : body (s0 as N.length) with
    | no =>
      rw [eb] at h
      exact h.elim
    | bk s1 =>
      rw [eb] at h
      exact h.elim
    | ct s1 =>
      rw [eb] at h
      exact h.elim
    | nx s1 =>
      rw [eb] at h
      dsimp only at h
      cases eo : outA as s1 with
      | none =>
        rw [eo] at h
        exact h.elim
      | some as' =>
        rw [eo] at h
        exact fun σ' B' H' _ ok' => h B' H' .non (post_of ok' eo) Dp.non
    | ex e s1 =>
      rw [eb] at h
      dsimp only at h
      cases eo : outA as s1 with
      | none =>
        rw [eo] at h
        exact h.elim
      | some as' =>
        rw [eo] at h
        exact fun σ' B' H' cls d _ ok' x => h B' H' cls d (post_of ok' eo) x
    | rt r s1 =>
      rw [eb] at h
      cases r with
      | slot i => exact h.elim
      | imm d =>
        dsimp only at h
        cases eo : outA as s1 with
        | none =>
          rw [eo] at h
          exact h.elim
        | some as' =>
          rw [eo] at h
          exact fun σ' B' H' v _ ok' x => h B' H' v (post_of ok' eo) x
      | tmp xs =>
        dsimp only at h
        cases eo : outA as s1 with
        | none =>
          rw [eo] at h
          exact h.elim
        | some as' =>
          rw [eo] at h
          exact fun σ' B' H' v _ ok' x => h B' H' v (post_of ok' eo) (by
            obtain ⟨a, us, h1, h2, h3, h4, h5, _⟩ := x
            exact ⟨a, us, h1, h2, h3, h4, h5⟩)
      | tmpd ks =>
        dsimp only at h
        cases eo : outA as s1 with
        | none =>
          rw [eo] at h
          exact h.elim
        | some as' =>
          rw [eo] at h
          exact fun σ' B' H' v _ ok' x => h B' H' v (post_of ok' eo) (by
            obtain ⟨a, us, h1, h2, h3, h4, h5, _⟩ := x
            exact ⟨a, us, h1, h2, h3, h4, h5⟩)
end

/-! ### a call of a def -/
def toAVs (s : SD) : List RV → Option (List AV)
  | [] => some []
  | .imm d :: r => (toAVs s r).map (.imm d :: ·)
  | .slot i :: r => match view s (.slot i) with
    | some (.list xs) => (toAVs s r).map (.lent xs :: ·)
    | _ => none
  | .tmp _ :: _ => none
  | .tmpd _ :: _ => none
def slotsOf : List RV → List Nat
  | [] => []
  | .slot i :: r => i :: slotsOf r
  | _ :: r => slotsOf r
def lentOf : List AV → Option (List D)
  | [] => none
  | .lent xs :: _ => some xs
  | _ :: r => lentOf r
def shape : List AV → List AV → Bool
  | .imm _ :: r, .imm _ :: r' => shape r r'
  | .lent _ :: r, .lent _ :: r' => shape r r'
  | [], [] => true
  | _, _ => false
theorem shape_get : ∀ {as bs : List AV} {i : Nat} {xs : List D}, shape as bs = true → bs[i]? = some (.lent xs) → ∃ ys, as[i]? = some (.lent ys)
  | [], [], i, xs, _, e => by simp at e
  | [], _ :: _, _, _, h, _ => by cases h
  | .imm _ :: _, [], _, _, h, _ => by cases h
  | .lent _ :: _, [], _, _, h, _ => by cases h
  | .imm _ :: _, .lent _ :: _, _, _, h, _ => by cases h
  | .lent _ :: _, .imm _ :: _, _, _, h, _ => by cases h
  | .imm _ :: r, .imm _ :: r', i, xs, h, e => by
    cases i with
    | zero => cases e
    | succ i => exact shape_get (as := r) (bs := r') (i := i) h e
  | .lent ys :: r, .lent _ :: r', i, xs, h, e => by
    cases i with
    | zero => exact ⟨ys, rfl⟩
    | succ i => exact shape_get (as := r) (bs := r') (i := i) h e
def fCallF (F : List AV → RF) (fa : FA) : FE := fun s => (fa s).bind fun rs s1 => match toAVs s1 rs with
  | none => .no
  | some as => match slotsOf rs with
    | [] => (match F as with
      | .ret (.imm d) _ => .ok (.imm d) s1
      | .ret (.tmp xs) _ => .ok (.tmp xs) s1
      | .ret (.tmpd ks) _ => .ok (.tmpd ks) s1
      | .exc e _ => .ex e s1
      | _ => .no)
    | [i] => (match F as with
      | .ret r as' => if shape as as' then (match lentOf as' with
        | some xs => (match setC s1 i (fun _ => some xs) with
          | some s2 => (match r with
            | .imm d => .ok (.imm d) s2
            | .tmp ys => .ok (.tmp ys) s2
            | .tmpd ks => .ok (.tmpd ks) s2
            | .slot _ => .no)
          | none => .no)
        | none => .no) else .no
      | .exc e as' => if shape as as' then (match lentOf as' with
        | some xs => (match setC s1 i (fun _ => some xs) with
          | some s2 => .ex e s2
          | none => .no)
        | none => .no) else .no
      | .no => .no)
    | _ => .no
theorem toAVs_len {s : SD} : ∀ {rs : List RV} {as : List AV}, toAVs s rs = some as → as.length = rs.length
  | [], _, e => by
    cases e
    rfl
  | .imm d :: r, as, e => by
    unfold toAVs at e
    cases q : toAVs s r with
    | none =>
      rw [q] at e
      cases e
    | some bs =>
      rw [q] at e
      cases e
      exact congrArg (· + 1) (toAVs_len q)
  | .slot i :: r, as, e => by
    unfold toAVs at e
    split at e
    · cases q : toAVs s r with
      | none =>
        rw [q] at e
        cases e
      | some bs =>
        rw [q] at e
        cases e
        exact congrArg (· + 1) (toAVs_len q)
    · cases e
  | .tmp _ :: _, _, e => by cases e
  | .tmpd _ :: _, _, e => by cases e
theorem rvs_len {p : Pr} {H0 : Hp} {σ : St} {s : SD} {B H : Hp} : ∀ {vs : List V} {rs : List RV}, RvsOk p H0 σ s B H vs rs → vs.length = rs.length
  | _, _, .nil => rfl
  | _, _, .cons _ t => congrArg (· + 1) (rvs_len t)
theorem toAVs_imm {p : Pr} {H0 : Hp} {σ : St} {s : SD} {B H : Hp} : ∀ {vs : List V} {rs : List RV} {as : List AV} {i : Nat} {d : D}, RvsOk p H0 σ s B H vs rs → toAVs s rs = some as → as[i]? = some (.imm d) → ∃ v, vs[i]? = some v ∧ Dp p.K B v d
  | _, _, _, i, d, .nil, e, h => by
    cases e
    simp at h
  | _, _, as, i, d, .cons (v := v) (r := r) (rs := rs) hv t, e, h => by
    cases r with
    | tmp _ => cases e
    | tmpd _ => cases e
    | imm d' =>
      unfold toAVs at e
      cases q : toAVs s rs with
      | none =>
        rw [q] at e
        cases e
      | some bs =>
        rw [q] at e
        cases e
        cases i with
        | zero =>
          cases h
          exact ⟨v, rfl, hv⟩
        | succ i => exact toAVs_imm (i := i) t q h
    | slot j =>
      unfold toAVs at e
      split at e
      · cases q : toAVs s rs with
        | none =>
          rw [q] at e
          cases e
        | some bs =>
          rw [q] at e
          cases e
          cases i with
          | zero => cases h
          | succ i => exact toAVs_imm (i := i) t q h
      · cases e
theorem toAVs_lent {p : Pr} {H0 : Hp} {σ : St} {s : SD} {B H : Hp} : ∀ {vs : List V} {rs : List RV} {as : List AV} {i : Nat} {xs : List D}, RvsOk p H0 σ s B H vs rs → toAVs s rs = some as → as[i]? = some (.lent xs) →
    ∃ j v, rs[i]? = some (.slot j) ∧ j ∈ slotsOf rs ∧ view s (.slot j) = some (.list xs) ∧ vs[i]? = some v ∧ σ[j]? = some (some v)
  | _, _, _, i, d, .nil, e, h => by
    cases e
    simp at h
  | _, _, as, i, d, .cons (v := v) (r := r) (rs := rs) hv t, e, h => by
    cases r with
    | tmp _ => cases e
    | tmpd _ => cases e
    | imm d' =>
      unfold toAVs at e
      cases q : toAVs s rs with
      | none =>
        rw [q] at e
        cases e
      | some bs =>
        rw [q] at e
        cases e
        cases i with
        | zero => cases h
        | succ i => exact toAVs_lent (i := i) t q h
    | slot j =>
      unfold toAVs at e
      split at e
      · rename_i xs ev
        cases q : toAVs s rs with
        | none =>
          rw [q] at e
          cases e
        | some bs =>
          rw [q] at e
          cases e
          cases i with
          | zero =>
            cases h
            exact ⟨j, v, rfl, List.mem_cons_self, ev, rfl, hv⟩
          | succ i =>
            obtain ⟨k, w, h1, h2, h3⟩ := toAVs_lent (i := i) t q h
            exact ⟨k, w, h1, List.mem_cons_of_mem _ h2, h3⟩
      · cases e
theorem slot_pos : ∀ {rs : List RV} {i j k : Nat}, slotsOf rs = [k] → rs[i]? = some (.slot k) → rs[j]? = some (.slot k) → i = j
  | [], _, _, _, e, _, _ => by cases e
  | .imm d :: r, i, j, k, e, h1, h2 => by
    cases i with
    | zero => cases h1
    | succ i =>
      cases j with
      | zero => cases h2
      | succ j => exact congrArg (· + 1) (slot_pos (rs := r) e h1 h2)
  | .tmp d :: r, i, j, k, e, h1, h2 => by
    cases i with
    | zero => cases h1
    | succ i =>
      cases j with
      | zero => cases h2
      | succ j => exact congrArg (· + 1) (slot_pos (rs := r) e h1 h2)
  | .tmpd d :: r, i, j, k, e, h1, h2 => by
    cases i with
    | zero => cases h1
    | succ i =>
      cases j with
      | zero => cases h2
      | succ j => exact congrArg (· + 1) (slot_pos (rs := r) e h1 h2)
  | .slot l :: r, i, j, k, e, h1, h2 => by
    have e1 : slotsOf r = [] := (List.cons.inj e).2
    have no : ∀ {r : List RV}, slotsOf r = [] → ∀ (n m : Nat), r[n]? ≠ some (.slot m) := fun {r} => by
      induction r with
      | nil => exact fun _ n m z => by simp at z
      | cons x r ih =>
        intro e n m z
        cases x with
        | slot _ => cases e
        | imm _ =>
          cases n with
          | zero => cases z
          | succ n => exact ih e n m z
        | tmp _ =>
          cases n with
          | zero => cases z
          | succ n => exact ih e n m z
        | tmpd _ =>
          cases n with
          | zero => cases z
          | succ n => exact ih e n m z
    cases i with
    | succ i => exact absurd h1 (no e1 i k)
    | zero =>
      cases j with
      | succ j => exact absurd h2 (no e1 j k)
      | zero => rfl
theorem lentOf_get : ∀ {as : List AV} {xs : List D}, lentOf as = some xs → ∃ i : Nat, as[i]? = some (AV.lent xs)
  | [], _, e => by cases e
  | .lent ys :: r, xs, e => by
    cases e
    exact ⟨0, rfl⟩
  | .imm d :: r, xs, e => by
    obtain ⟨i, h⟩ := lentOf_get (as := r) e
    exact ⟨i + 1, h⟩
theorem view_mut {s : SD} {j : Nat} {d : D} (h : view s (.slot j) = some d) : ∃ x : DV, s[j]? = some (some x) ∧ x.mut = true := by
  unfold view at h
  simp only [getS_eq] at h
  split at h
  · rename_i q
    exact ⟨_, q, rfl⟩
  · rename_i q
    exact ⟨_, q, rfl⟩
  · rename_i q
    exact ⟨_, q, rfl⟩
  · cases h
section
variable {X : Cx} {p : Pr} {W : WX} {fa : FA} {F : List AV → RF} {e : Expr} {es : List Expr} {x : Str} {pn pos : Pos} {k : Nat} {f : Addr} {fd : FuncData} {ps : List Str}
theorem call_of {σ : St} {H : Hp} {Q : VK} (h : tE p W (fCallF F fa) σ H Q) : tCallS (spD p.K p.C p.fld F) (WE W) (tA p W fa) σ H Q := by
  obtain ⟨B, s, ok, q⟩ := h
  refine ⟨B, s, ok, run_mono (run_bind q) fun rs s1 B1 H1 x1 ok1 k vs hv => ?_⟩
  cases ea : toAVs s1 rs with
  | none =>
    rw [ea] at k
    exact k.elim
  | some as =>
    rw [ea] at k
    dsimp only at k
    have len : vs.length = as.length := (rvs_len hv).trans (toAVs_len ea).symm
    have lentq : ∀ (i : Nat) (a : Addr), lentL vs as i = some a → ∃ j xs, rs[i]? = some (.slot j) ∧ j ∈ slotsOf rs ∧ view s1 (.slot j) = some (.list xs) ∧ as[i]? = some (.lent xs) ∧ σ[j]? = some (some (.ref a)) := fun i a hl => by
      unfold lentL at hl
      split at hl
      · rename_i xs b e1 e2
        cases hl
        obtain ⟨j, v, h1, h2, h3, h4, h5⟩ := toAVs_lent hv ea e1
        rw [e2] at h4
        cases h4
        exact ⟨j, xs, h1, h2, h3, e1, h5⟩
      · cases hl
    have ao : (∀ (i j : Nat) (a : Addr), lentL vs as i = some a → lentL vs as j = some a → i = j) → ArgsOk p.K B1 H1 vs as := fun sep => ⟨len, fun i d hd => toAVs_imm hv ea hd, fun i xs hx => by
      obtain ⟨j, v, h1, h2, h3, h4, h5⟩ := toAVs_lent hv ea hx
      obtain ⟨a, us, ys, g1, g2, g3, g4⟩ := slot_name ok1 h3
      rw [g1] at h5
      cases h5
      cases g4
      exact ⟨a, us, h4, g2, (by
        obtain ⟨_, _, nb, _⟩ := ok1.owned ⟨g1, view_mut h3⟩
        exact nb), g3⟩, sep, ok1.tb⟩
    split at k
    · -- nothing is lent
      rename_i es0
      have noL : ∀ i a, lentL vs as i ≠ some a := fun i a hl => by
        obtain ⟨j, xs, _, h2, _⟩ := lentq i a hl
        rw [es0] at h2
        cases h2
      have sep : ∀ (i j : Nat) (a : Addr), lentL vs as i = some a → lentL vs as j = some a → i = j := fun i j a h _ => absurd h (noL i a)
      refine ⟨B1, as, ok1.bh, ao sep, ?_⟩
      have gr : ∀ {B' H' : Hp} {as' : List AV}, CallPost p.K (lentL vs as) B1 H1 B' H' as' → Grow B1 H1 B' H' := fun {B' H' as'} c => ⟨c.bb, c.bh, fun b o z => c.fr b o z fun i => noL i b, c.new, fun b xs h => .inr (c.tb b xs h)⟩
      split at k
      · rename_i d as' eF
        simp only [eF]
        exact fun B' H' v c r => k B' H' (gr c).ext (ok1.grows (gr c)) v r
      · rename_i xs as' eF
        simp only [eF]
        refine fun B' H' v c r => k B' H' (gr c).ext (ok1.grows (gr c)) v ?_
        obtain ⟨a, us, h1, h2, h3, h4, h5⟩ := r
        exact ⟨a, us, h1, x1.dom a h2, h3, h4, h5, ok1.notOwn h2⟩
      · rename_i xs as' eF
        simp only [eF]
        refine fun B' H' v c r => k B' H' (gr c).ext (ok1.grows (gr c)) v ?_
        obtain ⟨a, us, h1, h2, h3, h4, h5⟩ := r
        exact ⟨a, us, h1, x1.dom a h2, h3, h4, h5, ok1.notOwn h2⟩
      · rename_i e' as' eF
        simp only [eF]
        refine fun B' H' cls d c x => k B' H' cls d (gr c).ext (ok1.grows (gr c)) ?_
        obtain ⟨c', h1, h2, h3⟩ := x
        refine ⟨c', h1, h2, ?_⟩
        revert h3
        cases e'.arg with
        | none => exact fun h => h
        | some y =>
          rintro ⟨a, v, g1, g2, g3⟩
          exact ⟨a, v, g1, ok1.dom a g2, g3⟩
      · exact k.elim
    · -- one list is lent
      rename_i j es0
      have sep : ∀ (i l : Nat) (a : Addr), lentL vs as i = some a → lentL vs as l = some a → i = l := fun i l a h h' => by
        obtain ⟨j1, xs1, g1, g2, _⟩ := lentq i a h
        obtain ⟨j2, xs2, k1, k2, _⟩ := lentq l a h'
        rw [es0] at g2 k2
        have e1 : j1 = j := by simpa using g2
        have e2 : j2 = j := by simpa using k2
        subst e1
        subst e2
        exact slot_pos es0 g1 k1
      refine ⟨B1, as, ok1.bh, ao sep, ?_⟩
      have after : ∀ {B' H' : Hp} {as' : List AV} {xs : List D} {s2 : SD}, CallPost p.K (lentL vs as) B1 H1 B' H' as' → lentOf as' = some xs → shape as as' = true → setC s1 j (fun _ => some xs) = some s2 →
          Ext σ s1 s2 B1 H1 B' H' ∧ StOk p B' H' σ s2 := fun {B' H' as' xs s2} c el hsh es => by
        obtain ⟨i, hi⟩ := lentOf_get el
        obtain ⟨ys0, hi0⟩ := shape_get hsh hi
        obtain ⟨j0, v0, _, _, q3, q4, q5⟩ := toAVs_lent hv ea hi0
        obtain ⟨a, _, _, q6, _⟩ := slot_name ok1 q3
        rw [q6] at q5
        cases q5
        have ha : lentL vs as i = some a := by
          unfold lentL
          rw [hi0, q4]
        obtain ⟨us, u1, u2, u3⟩ := c.lent i a xs ha hi
        obtain ⟨j1, ys, g1, g2, g3, g4, g5⟩ := lentq i a ha
        rw [es0] at g2
        have e1 : j1 = j := by simpa using g2
        subst e1
        obtain ⟨b, ws, zs, w1, w2, w3, w4⟩ := slot_name ok1 g3
        rw [g5] at w1
        cases w1
        have only : ∀ l b, lentL vs as l = some b → b = a := fun l b hb => by
          obtain ⟨j2, _, m1, m2, _, _, m5⟩ := lentq l b hb
          rw [es0] at m2
          have e2 : j2 = j1 := by simpa using m2
          subst e2
          rw [g5] at m5
          cases m5
          rfl
        have ne : ∀ b o, b ≠ a → H1 b = some o → H' b = some o := fun b o hb z => c.fr b o z fun l q => hb (only l b q)
        have gr : Grow B1 H1 B' (fun b => if b = a then H1 a else H' b) := ⟨c.bb, fun b o z => by
            have hb : b ≠ a := fun q => by rw [q, u2] at z; cases z
            show (if b = a then H1 a else H' b) = some o
            rw [if_neg hb]
            exact c.bh b o z, fun b o z => by
            show (if b = a then H1 a else H' b) = some o
            by_cases hb : b = a
            · rw [if_pos hb, ← hb]
              exact z
            · rw [if_neg hb]
              exact ne b o hb z, c.new, fun b xs h => by
            have h : (if b = a then H1 a else H' b) = some (.tup xs) := h
            by_cases hb : b = a
            · rw [if_pos hb, w2] at h
              cases h
            · rw [if_neg hb] at h
              exact .inr (c.tb b xs h)⟩
        obtain ⟨ok2, ow⟩ := setC_ok (ws := us) (ok1.grows gr) g5 es fun xs' ys' vs' _ _ _ e4 => by
          cases e4
          exact u3
        have eH : upd (fun b => if b = a then H1 a else H' b) a (.lst us) = H' := by
          funext b
          by_cases hb : b = a
          · rw [hb, upd_same, u1]
          · rw [upd_ne hb]
            show (if b = a then H1 a else H' b) = H' b
            rw [if_neg hb]
        rw [eH] at ok2
        have oa : Owns σ s1 j1 a := ⟨g5, view_mut g3⟩
        exact ⟨⟨c.bb, fun b o z n => ne b o (fun q => n j1 (q ▸ oa)) z, c.dom, c.new, ow⟩, ok2⟩
      split at k
      · rename_i r as' eF
        try simp only [eF]
        by_cases hsh : shape as as' = true
        rotate_left
        · rw [if_neg hsh] at k
          exact k.elim
        rw [if_pos hsh] at k
        cases el : lentOf as' with
        | none =>
          rw [el] at k
          exact k.elim
        | some xs =>
          rw [el] at k
          dsimp only at k
          cases es : setC s1 j (fun _ => some xs) with
          | none =>
            rw [es] at k
            exact k.elim
          | some s2 =>
            rw [es] at k
            cases r with
            | slot _ => exact k.elim
            | imm d =>
              refine fun B' H' v c r => ?_
              obtain ⟨x2, ok2⟩ := after c el hsh es
              exact k B' H' x2 ok2 v r
            | tmp ys =>
              refine fun B' H' v c r => ?_
              obtain ⟨x2, ok2⟩ := after c el hsh es
              obtain ⟨a, us, h1, h2, h3, h4, h5⟩ := r
              exact k B' H' x2 ok2 v ⟨a, us, h1, x1.dom a h2, h3, h4, h5, fun l o => ok1.notOwn h2 l (x2.own l a o)⟩
            | tmpd ks =>
              refine fun B' H' v c r => ?_
              obtain ⟨x2, ok2⟩ := after c el hsh es
              obtain ⟨a, us, h1, h2, h3, h4, h5⟩ := r
              exact k B' H' x2 ok2 v ⟨a, us, h1, x1.dom a h2, h3, h4, h5, fun l o => ok1.notOwn h2 l (x2.own l a o)⟩
      · rename_i e' as' eF
        try simp only [eF]
        by_cases hsh : shape as as' = true
        rotate_left
        · rw [if_neg hsh] at k
          exact k.elim
        rw [if_pos hsh] at k
        cases el : lentOf as' with
        | none =>
          rw [el] at k
          exact k.elim
        | some xs =>
          rw [el] at k
          dsimp only at k
          cases es : setC s1 j (fun _ => some xs) with
          | none =>
            rw [es] at k
            exact k.elim
          | some s2 =>
            rw [es] at k
            refine fun B' H' cls d c x => ?_
            obtain ⟨x2, ok2⟩ := after c el hsh es
            refine k B' H' cls d x2 ok2 ?_
            obtain ⟨c', h1, h2, h3⟩ := x
            refine ⟨c', h1, h2, ?_⟩
            revert h3
            cases e'.arg with
            | none => exact fun h => h
            | some y =>
              rintro ⟨a, v, g1, g2, g3⟩
              exact ⟨a, v, g1, ok1.dom a g2, g3⟩
      · exact k.elim
    · exact k.elim
theorem de_call (hF : FnOk X.prog X.w X.K X.mg X.base (L2.CX X.prog X.w) k f fd ps (spD p.K p.C p.fld F)) (hr : Room k X.A) (hm : X.mg x = some (.ref f)) (hk : PySem.W.keepIn X.K (.ref f) = true) (hb : Binds X.K fd ps []) (tk : Takes X W)
    (ha : PA X (e :: es) (tA p W fa)) (hg : Gl X x := by rfl) (hdb : (x == ("__debug__" : Str)) = false := by decide) (he : starEach (e :: es) X.env = (false, eval e X.env) :: starEach es X.env := by rfl) (hpl : (backTo pos (starEach es X.env)).any (·.1) = false := by rfl) :
    PE X (.Call (.Name x pn) (e :: es) [] pos) (tE p W (fCallF F fa)) := PE.imp (pe_callS hF hr hg hm hk hb (fun σ => passAt tk σ) ha hdb he hpl) fun σ H Q q => call_of q
end
end DL
end

set_option Elab.async false
set_option linter.all false
set_option maxRecDepth 100000
set_option maxHeartbeats 4000000
noncomputable section
namespace DL
open PySem PySem.Spec PyProof.Rows L2

/-! ### while -/
def loopW (u : FT) (body : FS) : Nat → FS
  | 0 => fun _ => .no
  | n + 1 => fun s => (u s).stm fun b s1 => match b with
    | true => (match body s1 with
      | .nx s2 => loopW u body n s2
      | .ct s2 => loopW u body n s2
      | .bk s2 => .nx s2
      | .rt r s2 => .rt r s2
      | .ex e s2 => .ex e s2
      | .no => .no)
    | false => .nx s1
section
variable {X : Cx} {p : Pr} {W : WX} {u : FT} {fb : FS} {c e : Expr} {body : List Stmt} {pos : Pos}
theorem ds_while (n : Nat) (hp : PassesOwn (model X.prog X.w) X.A X.env X.xe) (hc : PT X c (tT p W u)) (hb : PSs X body (tS p W fb)) : PS X (.While c body [] pos) (tS p W (loopW u fb n)) := PS.imp (ps_while hp hc hb) fun Dn σ H h => by
  obtain ⟨B, s, ok, h⟩ := h
  refine ⟨fun m σ H => ∃ B s, StOk p B H σ s ∧ sat p W B Dn (loopW u fb m s), ⟨n, B, s, ok, h⟩, ?_⟩
  rintro m σ H ⟨B, s, ok, h⟩
  cases m with
  | zero => exact h.elim
  | succ m =>
    refine ⟨B, s, ok, run_mono (run_sat h) fun b s1 B1 H1 x1 ok1 k => ?_⟩
    cases b with
    | false =>
      rw [if_neg Bool.false_ne_true]
      exact k σ B1 H1 (Same.refl _) ok1
    | true =>
      rw [if_pos rfl]
      refine ⟨fun σ' H' => ∃ B s, StOk p B H' σ' s ∧ sat p W B Dn (loopW u fb m s), fun σ' H' q => ⟨m, Nat.lt_succ_self m, q⟩, B1, s1, ok1, ?_⟩
      dsimp only at k
      revert k
      cases fb s1 with
      | nx s2 => exact fun k σ' B' H' b ok' => ⟨B', s2, ok', sat_later b k⟩
      | ct s2 => exact fun k σ' B' H' b ok' => ⟨B', s2, ok', sat_later b k⟩
      | bk s2 => exact fun k => k
      | rt r s2 => exact fun k => k
      | ex e s2 => exact fun k => k
      | no => exact fun k => k

/-! ### raise -/
def fRaise0 (n : Nat) : FS := fun s => .ex ⟨n, none⟩ s
def fRaise1 (n : Nat) (f : FE) : FS := fun s => (fI f s).stm fun r s1 => match r with
  | .imm d => .ex ⟨n, some d⟩ s1
  | _ => .no
theorem ds_raise0 {n : Nat} {C : Addr} (hc : X.calm = true) (tk : Takes X W) (hC : p.C n = some C) (hm : PMk X e (fun _ H Q => Q (.ref C) none H)) : PS X (.Raise (some e) none pos) (tS p W (fRaise0 n)) := PS.imp (ps_raise hc tk hm) fun Dn σ H h => by
  obtain ⟨B, s, ok, h⟩ := h
  exact h σ B H _ _ (Same.refl _) ok ⟨C, hC, rfl, rfl⟩
/-- __init__(self, x): self.f = x -/
def spI1 (C : Addr) (f : Str) : Sp := fun vs H Q _ => ∃ a y, vs = [.ref a, y] ∧ H a = some (exo a C none) ∧ ∀ dx, H dx = none → dx ≠ a → Q .non (upd (upd H dx (exd dx [(f, y)])) a (exo a C (some dx)))
theorem ds_raise1 {n : Nat} {C : Addr} {f : FE} (hc : X.calm = true) (tk : Takes X W) (hC : p.C n = some C) (hm : PMk X e (tMkO C (spI1 C (p.fld n)) [] (tCons (tE p W (fI f)) tNil))) : PS X (.Raise (some e) none pos) (tS p W (fRaise1 n f)) := PS.imp (ps_raise hc tk hm) fun Dn σ H h => by
  obtain ⟨B, s, ok, h⟩ := h
  refine ⟨B, s, ok, run_mono (run_sat h) fun r s1 B1 H1 x1 ok1 k v hv => ?_⟩
  cases r with
  | tmp _ => exact k.elim
  | slot _ => exact k.elim
  | tmpd _ => exact k.elim
  | imm d =>
    refine ⟨by show 1 ≤ 1000; decide, fun a na => ⟨a, v, rfl, upd_same, fun dx nx ne => ⟨rfl, dx, [(p.fld n, v)], upd_same, ?_, ?_, ?_⟩⟩⟩
    · rw [upd_ne ne, upd_same]
    · rw [upd_ne ne] at nx
      exact nx
    · have nd : H1 dx = none := by
        rw [upd_ne ne] at nx
        exact nx
      have eH : upd (del (upd (upd (upd H1 a (exo a C none)) dx (exd dx [(p.fld n, v)])) a (exo a C (some dx))) a) dx (.xd [(p.fld n, v)]) = upd H1 dx (.xd [(p.fld n, v)]) := by
        funext b
        by_cases hb : b = dx
        · rw [hb, upd_same, upd_same]
        · rw [upd_ne hb, upd_ne hb]
          by_cases ha : b = a
          · rw [ha, del_same, na]
          · rw [del_ne ha, upd_ne ha, upd_ne hb, upd_ne ha]
      rw [eH]
      exact k σ B1 _ _ _ (Same.refl _) (ok1.newH nd fun _ z => nomatch z) ⟨C, hC, rfl, dx, v, rfl, ok1.dom dx nd, ok1.bh.free nd, upd_same, hv⟩
end

/-! ### try -/
def noExc (s : SD) : Bool := s.all fun dv => match dv with
  | some .exc => false
  | _ => true
def dropRS (i : Nat) : RS → RS
  | .nx s => if noExc (s.set i none) then .nx (s.set i none) else .no
  | .bk s => if noExc (s.set i none) then .bk (s.set i none) else .no
  | .ct s => if noExc (s.set i none) then .ct (s.set i none) else .no
  | .rt (.slot _) _ => .no
  | .rt r s => if noExc (s.set i none) then .rt r (s.set i none) else .no
  | .ex _ _ => .no
  | .no => .no
def keepRS : RS → RS
  | .nx s => if noExc s then .nx s else .no
  | .bk s => if noExc s then .bk s else .no
  | .ct s => if noExc s then .ct s else .no
  | .rt r s => if noExc s then .rt r s else .no
  | .ex _ _ => .no
  | .no => .no
abbrev DCl := (Nat → Bool) × Option Nat × (DExc → FS)
def handle : List DCl → DExc → FS
  | [], e => fun s => .ex e s
  | (m, none, k) :: r, e => fun s => if m e.cls then (if noExc s then keepRS (k e s) else .no) else handle r e s
  | (m, some i, k) :: r, e => fun s => if m e.cls then (if noExc s && plainAt s i then dropRS i (k e (s.set i (some .exc))) else .no) else handle r e s
def fTry (fb : FS) (cs : List DCl) : FS := fun s => match fb s with
  | .ex e s1 => handle cs e s1
  | r => r
/-- the exception in a suite: its dict is data that stands -/
def XdIn (p : Pr) (B : Hp) (e : DExc) (cls : Value) (d : Option Addr) : Prop :=
  ∃ c, p.C e.cls = some c ∧ cls = .ref c ∧ match e.arg with
    | none => True
    | some x => ∃ (a : Addr) (v : V), d = some a ∧ B a = some (.xd [(p.fld e.cls, v)]) ∧ Dp p.K B v x
def rebase (p : Pr) (B : Hp) (a : Addr) : Pr := pr p.K p.Z B p.L p.C p.fld (some a)
def tX (p : Pr) (k : DExc → FS) (a : Addr) (cls : Value) (d : Option Addr) : TS := fun Dn σ H => ∃ B s e, XdIn p B e cls d ∧ StOk (rebase p B a) B H σ s ∧ sat (rebase p B a) WF B Dn (k e s)
theorem suite_of {X : Cx} {p : Pr} {k : DExc → FS} {a : Addr} {cls : Value} {d : Option Addr} {sts : List Stmt} (h : ∀ e B, XdIn p B e cls d → PSs X sts (tS (rebase p B a) WF (k e))) : PSs X sts (tX p k a cls d) := ⟨fun pins s σ H Dn I q => by
  obtain ⟨B, s', e, x, ok, q⟩ := q
  exact (h e B x).run pins s σ H Dn I ⟨B, s', ok, q⟩⟩
theorem noExc_at {s : SD} {i : Nat} (h : noExc s = true) : s[i]? ≠ some (some .exc) := fun z => by
  have m := List.mem_of_getElem? z
  have q := List.all_eq_true.mp h _ m
  cases q
theorem to_base {p : Pr} {B H : Hp} {σ : St} {s : SD} {Bs : Hp} {a : Addr} (ok : StOk p B H σ s) (hs : noExc s = true) (bb : Same B Bs) (bh : Same Bs H) (nw : ∀ b, p.Z b ≠ none → B b = none → Bs b = none) (ow : ∀ i c, Owns σ s i c → Bs c = none) : StOk (rebase p Bs a) Bs H σ s := by
  refine ⟨ok.len, fun i dv v e1 e2 => ?_, ok.sep, Same.refl _, bh, ok.fr, ok.dom, fun _ _ z => z, fun b xs h => bb _ _ (ok.tb b xs h)⟩
  have q := ok.slot i dv v e1 e2
  match dv, q with
  | none, q => exact q
  | some (.imm d), ⟨l, x, e, r⟩ => exact ⟨l, x, e, dp_same bb _ _ r⟩
  | some (.own xs), ⟨l, c, us, e, z, h, n, r⟩ => exact ⟨l, c, us, e, z, h, ow i c ⟨by rw [e2, e], _, e1, rfl⟩, dps_same bb _ _ r⟩
  | some (.lent xs), ⟨c, us, l, e, h, n, r⟩ => exact ⟨c, us, l, e, h, ow i c ⟨by rw [e2, e], _, e1, rfl⟩, dps_same bb _ _ r⟩
  | some .exc, q => exact absurd e1 (noExc_at hs)
  | some (.dct xs), ⟨l, c, us, e, z, h, n, r⟩ => exact ⟨l, c, us, e, z, h, ow i c ⟨by rw [e2, e], _, e1, rfl⟩, dcs_same bb _ _ r⟩
theorem of_base {p : Pr} {B0' B H : Hp} {σ : St} {s : SD} {a : Addr} (ok : StOk (rebase p B0' a) B H σ s) (hs : noExc s = true) (b0 : Same p.B0 B0') (nw : ∀ b, p.Z b ≠ none → p.B0 b = none → B0' b = none) : StOk p B H σ s := by
  refine ⟨ok.len, fun i dv v e1 e2 => ?_, ok.sep, b0.trans ok.b0, ok.bh, ok.fr, ok.dom, fun b z e => ok.new b z (nw b z e), ok.tb⟩
  have q := ok.slot i dv v e1 e2
  match dv, q with
  | none, q => exact q
  | some (.imm d), q => exact q
  | some (.own xs), q => exact q
  | some (.lent xs), q => exact q
  | some .exc, q => exact absurd e1 (noExc_at hs)
  | some (.dct xs), q => exact q
theorem setN_ok {p : Pr} {B H : Hp} {σ : St} {s : SD} {i : Nat} {x : Option V} (ok : StOk p B H σ s) (hl : p.L i = none) : StOk p B H (σ.set i x) (s.set i none) ∧ ∀ j c, Owns (σ.set i x) (s.set i none) j c → Owns σ s j c := by
  have ow : ∀ j c, Owns (σ.set i x) (s.set i none) j c → Owns σ s j c := fun j c o => by
    obtain ⟨o1, x', o2, m⟩ := o
    by_cases e : i = j
    · subst e
      have hi : i < s.length := by
        have := (List.getElem?_eq_some_iff.mp o2).1
        simpa using this
      rw [List.getElem?_set_self hi] at o2
      first
        | cases o2; done
        | (cases o2; cases m)
    · rw [List.getElem?_set_ne e] at o1 o2
      exact ⟨o1, x', o2, m⟩
  refine ⟨⟨by rw [List.length_set, List.length_set]; exact ok.len, fun j dj vj e1 e2 => ?_, fun j k c o1 o2 => ok.sep j k c (ow j c o1) (ow k c o2), ok.b0, ok.bh, ok.fr, ok.dom, ok.new, ok.tb⟩, ow⟩
  by_cases ej : i = j
  · subst ej
    rw [List.getElem?_set_self (by have := (List.getElem?_eq_some_iff.mp e1).1; simpa using this)] at e1
    cases e1
    exact hl
  · rw [List.getElem?_set_ne ej] at e1 e2
    exact ok.slot j dj vj e1 e2
theorem setX_ok {p : Pr} {B H : Hp} {σ : St} {s : SD} {i : Nat} {a : Addr} (ok : StOk p B H σ s) (hl : p.L i = none) (hx : p.xa = some a) : StOk p B H (σ.set i (some (.ref a))) (s.set i (some .exc)) := by
  have ow : ∀ j c, Owns (σ.set i (some (.ref a))) (s.set i (some .exc)) j c → Owns σ s j c := fun j c o => by
    obtain ⟨o1, x', o2, m⟩ := o
    by_cases e : i = j
    · subst e
      have hi : i < s.length := by
        have := (List.getElem?_eq_some_iff.mp o2).1
        simpa using this
      rw [List.getElem?_set_self hi] at o2
      first
        | cases o2; done
        | (cases o2; cases m)
    · rw [List.getElem?_set_ne e] at o1 o2
      exact ⟨o1, x', o2, m⟩
  refine ⟨by rw [List.length_set, List.length_set]; exact ok.len, fun j dj vj e1 e2 => ?_, fun j k c o1 o2 => ok.sep j k c (ow j c o1) (ow k c o2), ok.b0, ok.bh, ok.fr, ok.dom, ok.new, ok.tb⟩
  by_cases ej : i = j
  · subst ej
    rw [List.getElem?_set_self (by have := (List.getElem?_eq_some_iff.mp e1).1; simpa using this)] at e1
    rw [List.getElem?_set_self (by have := (List.getElem?_eq_some_iff.mp e2).1; simpa using this)] at e2
    cases e1
    cases e2
    exact ⟨hl, a, hx, rfl⟩
  · rw [List.getElem?_set_ne ej] at e1 e2
    exact ok.slot j dj vj e1 e2
/-- the clauses, read by data: the class that each names, its match by numbers -/
inductive ClsD (p : Pr) : List DCl → List Cl → Prop
  | nil : ClsD p [] []
  | cons {m : Nat → Bool} {io : Option Nat} {k : DExc → FS} {c : Value} {cs : List DCl} {l : List Cl} (hm : ∀ n C, p.C n = some C → PySem.W.exmOne p.K (.ref C) c = some (m n)) (r : ClsD p cs l) : ClsD p ((m, io, k) :: cs) ((c, io, tX p k) :: l)
theorem mix_of {p : Pr} {W : WX} {Dn : Ends} : ∀ {cs : List DCl} {l : List Cl} {e : DExc} {s : SD} {σ : St} {B H : Hp} {cls : Value} {d : Option Addr}, ClsD p cs l → StOk p B H σ s → ExOk p B H e cls d → sat p W B Dn (handle cs e s) → wMix p.K W Dn l cls d σ H
  | _, _, e, s, σ, B, H, cls, d, .nil, ok, x, h => h σ B H cls d (Same.refl _) ok x
  | _, _, e, s, σ, B, H, cls, d, .cons (m := m) (io := io) (k := k) (c := c) (cs := cs) (l := l) hm r, ok, x, h => by
    obtain ⟨c0, x1, x2, x3⟩ := id x
    subst x2
    -- the exception's dict joins the data
    have base : ∃ Bs, Same B Bs ∧ Same Bs H ∧ (∀ b, p.Z b ≠ none → B b = none → Bs b = none) ∧ (∀ i c, Owns σ s i c → Bs c = none) ∧ XdIn p Bs e (.ref c0) d := by
      revert x3
      cases ea : e.arg with
      | none => exact fun _ => ⟨B, Same.refl _, ok.bh, fun _ _ z => z, fun i c o => by
          obtain ⟨_, _, z, _⟩ := ok.owned o
          exact z, c0, x1, rfl, by rw [ea]; trivial⟩
      | some y =>
        rintro ⟨dd, v, e1, e2, e3, e4, e5⟩
        have sb : Same B (upd B dd (.xd [(p.fld e.cls, v)])) := same_upd e3
        refine ⟨upd B dd (.xd [(p.fld e.cls, v)]), sb, fun b o z => ?_, fun b z w => ?_, fun i c o => ?_, c0, x1, rfl, by rw [ea]; exact ⟨dd, v, e1, upd_same, dp_same sb _ _ e5⟩⟩
        · by_cases q : b = dd
          · subst q
            rw [upd_same] at z
            cases z
            exact e4
          · rw [upd_ne q] at z
            exact ok.bh b o z
        · rw [upd_ne (fun q => z (by rw [q]; exact e2))]
          exact w
        · obtain ⟨us, z1, z2, _, z3⟩ := ok.owned o
          rw [upd_ne (fun q => by rw [q, e4] at z1; exact z3 _ (Option.some.inj z1).symm)]
          exact z2
    obtain ⟨Bs, bb, bh, nw, ow, xd⟩ := base
    have b0s : Same p.B0 Bs := ok.b0.trans bb
    have nws : ∀ b, p.Z b ≠ none → p.B0 b = none → Bs b = none := fun b z w => nw b z (ok.new b z w)
    cases io with
    | none =>
      refine ⟨m e.cls, hm _ _ x1, fun hme a na => ?_, fun hme => ?_⟩
      · unfold handle at h
        rw [if_pos hme] at h
        by_cases hx : noExc s = true
        rotate_left
        · rw [if_neg hx] at h
          exact h.elim
        rw [if_pos hx] at h
        refine ⟨Bs, s, e, xd, to_base ok hx bb bh nw ow, ?_⟩
        revert h
        have back : ∀ {s2 : SD} {σ2 : St} {B2 H2 : Hp}, noExc s2 = true → StOk (rebase p Bs a) B2 H2 σ2 s2 → StOk p B2 H2 σ2 s2 := fun hn ok2 => of_base ok2 hn b0s nws
        cases k e s with
        | no => exact fun h => h
        | ex _ _ => exact fun h => h.elim
        | nx s2 =>
          intro h
          have h : sat p W B Dn (if noExc s2 = true then .nx s2 else .no) := h
          by_cases hn : noExc s2 = true
          · rw [if_pos hn] at h
            exact fun σ2 B2 H2 b2 ok2 => h σ2 B2 H2 (bb.trans b2) (back hn ok2)
          · rw [if_neg hn] at h
            exact h.elim
        | bk s2 =>
          intro h
          have h : sat p W B Dn (if noExc s2 = true then .bk s2 else .no) := h
          by_cases hn : noExc s2 = true
          · rw [if_pos hn] at h
            exact fun σ2 B2 H2 b2 ok2 => h σ2 B2 H2 (bb.trans b2) (back hn ok2)
          · rw [if_neg hn] at h
            exact h.elim
        | ct s2 =>
          intro h
          have h : sat p W B Dn (if noExc s2 = true then .ct s2 else .no) := h
          by_cases hn : noExc s2 = true
          · rw [if_pos hn] at h
            exact fun σ2 B2 H2 b2 ok2 => h σ2 B2 H2 (bb.trans b2) (back hn ok2)
          · rw [if_neg hn] at h
            exact h.elim
        | rt r2 s2 =>
          intro h
          have h : sat p W B Dn (if noExc s2 = true then .rt r2 s2 else .no) := h
          by_cases hn : noExc s2 = true
          · rw [if_pos hn] at h
            refine fun σ2 B2 H2 v b2 ok2 hv => h σ2 B2 H2 v (bb.trans b2) (back hn ok2) ?_
            cases r2 with
            | imm _ => exact hv
            | tmp _ => exact hv
            | slot _ => exact hv
            | tmpd _ => exact hv
          · rw [if_neg hn] at h
            exact h.elim
      · unfold handle at h
        rw [if_neg (by rw [hme]; exact Bool.false_ne_true)] at h
        exact mix_of r ok x h
    | some i =>
      refine ⟨m e.cls, hm _ _ x1, fun hme a na => ?_, fun hme => ?_⟩
      · unfold handle at h
        rw [if_pos hme] at h
        by_cases hx : (noExc s && plainAt s i) = true
        rotate_left
        · rw [if_neg hx] at h
          exact h.elim
        rw [if_pos hx] at h
        rw [Bool.and_eq_true] at hx
        obtain ⟨hl, _⟩ := plain_L ok hx.2
        refine ⟨Bs, s.set i (some .exc), e, xd, setX_ok (to_base ok hx.1 bb bh nw ow) hl rfl, ?_⟩
        revert h
        have back : ∀ {s2 : SD} {σ2 : St} {B2 H2 : Hp}, noExc (s2.set i none) = true → StOk (rebase p Bs a) B2 H2 σ2 s2 → StOk p B2 H2 (σ2.set i none) (s2.set i none) := fun hn ok2 => of_base (setN_ok ok2 hl).1 hn b0s nws
        cases k e (s.set i (some .exc)) with
        | no => exact fun h => h
        | ex _ _ => exact fun h => h.elim
        | nx s2 =>
          intro h
          have h : sat p W B Dn (if noExc (s2.set i none) = true then .nx (s2.set i none) else .no) := h
          by_cases hn : noExc (s2.set i none) = true
          · rw [if_pos hn] at h
            exact fun σ2 B2 H2 b2 ok2 => h _ B2 H2 (bb.trans b2) (back hn ok2)
          · rw [if_neg hn] at h
            exact h.elim
        | bk s2 =>
          intro h
          have h : sat p W B Dn (if noExc (s2.set i none) = true then .bk (s2.set i none) else .no) := h
          by_cases hn : noExc (s2.set i none) = true
          · rw [if_pos hn] at h
            exact fun σ2 B2 H2 b2 ok2 => h _ B2 H2 (bb.trans b2) (back hn ok2)
          · rw [if_neg hn] at h
            exact h.elim
        | ct s2 =>
          intro h
          have h : sat p W B Dn (if noExc (s2.set i none) = true then .ct (s2.set i none) else .no) := h
          by_cases hn : noExc (s2.set i none) = true
          · rw [if_pos hn] at h
            exact fun σ2 B2 H2 b2 ok2 => h _ B2 H2 (bb.trans b2) (back hn ok2)
          · rw [if_neg hn] at h
            exact h.elim
        | rt r2 s2 =>
          intro h
          cases r2 with
          | slot _ => exact h.elim
          | imm d2 =>
            have h : sat p W B Dn (if noExc (s2.set i none) = true then .rt (.imm d2) (s2.set i none) else .no) := h
            by_cases hn : noExc (s2.set i none) = true
            · rw [if_pos hn] at h
              exact fun σ2 B2 H2 v b2 ok2 hv => h (σ2.set i none) B2 H2 v (bb.trans b2) (back hn ok2) hv
            · rw [if_neg hn] at h
              exact h.elim
          | tmp xs =>
            have h : sat p W B Dn (if noExc (s2.set i none) = true then .rt (.tmp xs) (s2.set i none) else .no) := h
            by_cases hn : noExc (s2.set i none) = true
            · rw [if_pos hn] at h
              refine fun σ2 B2 H2 v b2 ok2 hv => h (σ2.set i none) B2 H2 v (bb.trans b2) (back hn ok2) ?_
              obtain ⟨c, us, g1, g2, g3, g4, g5, g6⟩ := hv
              exact ⟨c, us, g1, g2, g3, g4, g5, fun j o => g6 j ((setN_ok ok2 hl).2 j c o)⟩
            · rw [if_neg hn] at h
              exact h.elim
          | tmpd xs =>
            have h : sat p W B Dn (if noExc (s2.set i none) = true then .rt (.tmpd xs) (s2.set i none) else .no) := h
            by_cases hn : noExc (s2.set i none) = true
            · rw [if_pos hn] at h
              refine fun σ2 B2 H2 v b2 ok2 hv => h (σ2.set i none) B2 H2 v (bb.trans b2) (back hn ok2) ?_
              obtain ⟨c, us, g1, g2, g3, g4, g5, g6⟩ := hv
              exact ⟨c, us, g1, g2, g3, g4, g5, fun j o => g6 j ((setN_ok ok2 hl).2 j c o)⟩
            · rw [if_neg hn] at h
              exact h.elim
      · unfold handle at h
        rw [if_neg (by rw [hme]; exact Bool.false_ne_true)] at h
        exact mix_of r ok x h
section
variable {X : Cx} {p : Pr} {W : WX} {fb : FS} {cs : List DCl} {l : List Cl} {body : List Stmt} {h₀ : ExceptHandler} {hds : List ExceptHandler} {pos : Pos}
theorem ds_try (hs : X.stack = X.env :: X.outer) (hf : X.env.frame = some X.env.locals) (hN : X.N.Nodup) (tk : Takes X W)
    (hb : ∀ (W' : WX) (pn : List (Addr × Obj)) (xe : Value → Shared → Prop), Takes (X.tr pn xe) W' → PassesOwn (model X.prog X.w) X.A X.env xe → PSs (X.tr pn xe) body (tS p W' fb))
    (hd : ClsD p cs l) (hh : HdMix X (h₀ :: hds) l) (eK : p.K = X.K := by rfl) : PS X (.Try body (h₀ :: hds) [] [] pos) (tS p W (fTry fb cs)) := PS.imp (ps_try_mix hs hf hN tk hb hh) fun Dn σ H h => by
  obtain ⟨B, s, ok, h⟩ := h
  refine ⟨B, s, ok, ?_⟩
  unfold fTry at h
  revert h
  cases fb s with
  | ex e s1 =>
    intro h σ' B' H' cls d b ok' x
    rw [← eK]
    exact mix_of hd ok' x (sat_later b h)
  | nx s1 => exact fun h => h
  | bk s1 => exact fun h => h
  | ct s1 => exact fun h => h
  | rt r s1 => exact fun h => h
  | no => exact fun h => h
/-- e.f in a suite -/
def fXarg (e : DExc) (i : Nat) : FE := fun s => match s[i]?, e.arg with
  | some (some .exc), some x => .ok (.imm x) s
  | _, _ => .no
theorem de_xf {a C : Addr} {oe : Obj} {cls : Value} {d : Option Addr} {pn : List (Addr × Obj)} {B : Hp} {e : DExc} {i : Nat} {x n : Str} {px pos : Pos} (T : XfC X.K C) (hno : PySem.W.findIn X.K (.ref C) n = some none)
    (hz : Zc cls d oe) (hf : ∃ vs, oe.data = .fields vs) (hx : XdIn p B e cls d) (he : ∀ c x, p.C e.cls = some c → e.arg = some x → c = C ∧ p.fld e.cls = n) (hN : X.N[i]? = some x := by rfl) (hv : Vis X.env.scope x := by first | exact Or.inl rfl | exact Or.inr (Or.inl rfl) | exact Or.inr (Or.inr rfl)) (hd : (x == ("__debug__" : Str)) = false := by decide)
    (hcd : (x == ("__classdict__" : Str)) = false := by decide) (hb : attributeBase (.Name x px) n X.env (eval (.Name x px) X.env) = eval (.Name x px) X.env := by rfl) :
    PE (X.suite a ((a, oe) :: pn)) (.Attribute (.Name x px) n pos) (tE (rebase p B a) WF (fXarg e i)) := PE.imp (pe_xf T hno hz hf (pe_var (X := X.suite a ((a, oe) :: pn)) hN hv hd hcd) hb) fun σ H Q h => by
  obtain ⟨B1, s, ok, h⟩ := h
  unfold fXarg at h
  split at h
  · rename_i y e1 e2
    obtain ⟨c, x1, x2, x3⟩ := hx
    rw [e2] at x3
    obtain ⟨dd, v, d1, d2, d3⟩ := x3
    obtain ⟨ec, ef⟩ := he c y x1 e2
    have hi := (List.getElem?_eq_some_iff.mp e1).1
    have hσ : i < σ.length := by rw [ok.len]; exact hi
    obtain ⟨_, a', xa, ev⟩ := ok.slot i _ _ e1 (List.getElem?_eq_getElem hσ)
    cases xa
    refine ⟨_, by rw [List.getElem?_eq_getElem hσ, ev], rfl, by rw [x2, ec], dd, _, v, d1, ok.bh _ _ (ok.b0 _ _ d2), ?_, ?_⟩
    · rw [ef]
      simp [List.lookup]
    · exact h B1 H .refl ok v (dp_same ok.b0 _ _ d3)
  · exact h.elim
end
end DL
end

set_option Elab.async false
set_option linter.all false
set_option maxRecDepth 100000
set_option maxHeartbeats 4000000
noncomputable section
namespace DL
open PySem PySem.Spec PyProof.Rows L2

/-! ### isinstance -/
inductive TyN where
  | int | bool | str | list | tuple
def TyN.name : TyN → String
  | .int => "int"
  | .bool => "bool"
  | .str => "str"
  | .list => "list"
  | .tuple => "tuple"
inductive Kd where
  | non | bl | int | str | lst | tup
def Kd.name : Kd → String
  | .non => "NoneType"
  | .bl => "bool"
  | .int => "int"
  | .str => "str"
  | .lst => "list"
  | .tup => "tuple"
def kd : D → Option Kd
  | .none => some .non
  | .bool _ => some .bl
  | .int _ => some .int
  | .str _ => some .str
  | .list _ => some .lst
  | .tuple _ => some .tup
  | .dict _ => none
def isK : TyN → Kd → Bool
  | .int, .int => true
  | .int, .bl => true
  | .bool, .bl => true
  | .str, .str => true
  | .list, .lst => true
  | .tuple, .tup => true
  | _, _ => false
theorem kit_all (T : TyN) (k : Kd) : kitB k.name T.name = some (isK T k) := by
  cases T <;> cases k <;> decide +kernel
def hIs (T : TyN) (d : D) : Option PO := (kd d).map fun k => .val (.bool (isK T k))
theorem his_kit {K : PySem.W.Frag} {T : TyN} {d : D} {o : PO} (h : hIs T d = some o) : ∃ k b, kd d = some k ∧ o = .val (.bool b) ∧ PySem.W.kitOne K (.type k.name) (.type T.name) = some b := by
  unfold hIs at h
  cases e : kd d with
  | none =>
    rw [e] at h
    cases h
  | some k =>
    rw [e] at h
    cases h
    exact ⟨k, _, rfl, rfl, kit_ty (kit_all T k)⟩
theorem ty_of {K : PySem.W.Frag} {B H : Hp} {v : V} {d : D} (bh : Same B H) {k : Kd} (h : Vw K B H v d) (ek : kd d = some k) : TyX K H v (.type k.name) := by
  have lst : ∀ {a : Addr} {vs : List V}, SqL K H a vs → TyX K H (.ref a) (.type "list") := fun {a vs} h => by
    rcases h with (h | ⟨o, h⟩) | ⟨o, its, n, h, hc, _⟩
    · exact .base (.lst h)
    · exact .base (.frz h)
    · exact .kList h hc
  rcases h with h | ⟨a, vs, ys, rfl, rfl, h1, h2⟩ | ⟨a, vs, ys, rfl, rfl, h1, h2⟩
  · cases h with
    | dic _ _ => cases ek
    | non => obtain rfl : k = .non := (Option.some.inj ek).symm; exact .base .non
    | bl b => obtain rfl : k = .bl := (Option.some.inj ek).symm; exact .base (.bl b)
    | int i => obtain rfl : k = .int := (Option.some.inj ek).symm; exact .base (.int i)
    | str x => obtain rfl : k = .str := (Option.some.inj ek).symm; exact .base (.str x)
    | lst hs ha => obtain rfl : k = .lst := (Option.some.inj ek).symm; exact lst (sqL_same bh hs)
    | tup hs ha =>
      obtain rfl : k = .tup := (Option.some.inj ek).symm
      rcases (SqT.of (bh _ _ hs) : SqT K H _ _) with (h | ⟨o, h⟩) | h
      · exact .base (.tup h)
      · exact .fTuple h
      · obtain ⟨o, n, its, e, c, _⟩ := h
        exact .kTuple e c
  · obtain rfl : k = .lst := (Option.some.inj ek).symm
    exact lst (.inl (Rd.of h1))
  · cases ek
section
variable {X : Cx} {p : Pr} {W : WX} {f : FE} {e : Expr} {pos : Pos}
theorem de_isi (T : TyN) {x : Str} {p1 p2 : Pos} (eT : x = Str.ofString T.name) (hgi : Gl X "isinstance") (hmi : X.mg "isinstance" = none) (hg : Gl X x) (hm : X.mg x = none) (hv : bootBuiltins x = some (.type T.name)) (ha : PE X e (tE p W f)) (eK : p.K = X.K := by rfl)
    (hn : x ≠ "__name__" := by decide) (hd : (x == ("__debug__" : Str)) = false := by decide)
    (h1 : starEach [e, .Name x p2] X.env = (false, eval e X.env) :: starEach [.Name x p2] X.env := by rfl) (h2 : starEach [Expr.Name x p2] X.env = (false, eval (.Name x p2) X.env) :: starEach [] X.env := by rfl) (h3 : (backTo pos (starEach [Expr.Name x p2] X.env)).any (·.1) = false := by rfl) :
    PE X (.Call (.Name "isinstance" p1) [e, .Name x p2] [] pos) (tE p W (f1 (hIs T) f)) :=
  PE.imp (pe_callB call_isi hgi hmi PyProof.Rows.boot_isinstance (pa_cons ha (pa_cons (pe_bltn (v := .ty T.name) hg hm hv rfl hn hd) pa_nil h2) h1) (by decide) (by decide) h1 h3) fun σ H Q h => by
  obtain ⟨B, s, ok, q⟩ := h
  refine ⟨B, s, ok, run_mono (run_bind q) fun r1 s1 B1 H1 x1 ok1 k v hv => ?_⟩
  revert k
  cases ev : view s1 r1 with
  | none => exact fun k => k.elim
  | some d =>
    cases eh : hIs T d with
    | none =>
      intro k
      simp only [eh] at k
      exact k.elim
    | some o =>
      intro k
      simp only [eh] at k
      obtain ⟨kk, b, ek, eo, hk⟩ := his_kit (K := X.K) eh
      subst eo
      refine ⟨v, .ty T.name, _, _, b, rfl, .ty _, ty_of (K := X.K) ok1.bh (by rw [← eK]; exact vw_of hv ok1 ev) ek, hk, ?_⟩
      exact k B1 H1 .refl ok1 _ (Dp.bl _)
end

/-! ### in, not in -/
def memI (i : Int) : List D → Option Bool
  | [] => some false
  | .int j :: r => if j = i then (memI i r).map fun _ => true else memI i r
  | _ :: _ => none
theorem memI_ok {i : Int} : ∀ {ds : List D} {b : Bool}, memI i ds = some b → (ds.any fun z => PyData.eqv z (.int i)) = b ∧ PyData.canLayAll0 ds = true ∧ PyData.depthAll ds = 0
  | [], b, h => by
    cases h
    exact ⟨rfl, by simp [PyData.canLayAll0], by simp [PyData.depthAll]⟩
  | d :: r, b, h => by
    unfold memI at h
    split at h
    · rename_i e
      cases e
    · rename_i j r' e
      cases e
      split at h
      · rename_i hj
        subst hj
        cases q : memI j r with
        | none =>
          rw [q] at h
          cases h
        | some c =>
          rw [q] at h
          cases h
          obtain ⟨h1, h2, h3⟩ := memI_ok q
          refine ⟨?_, by simp [PyData.canLayAll0, PyData.canLay0, h2], by simp [PyData.depthAll, PyData.depth, h3]⟩
          rw [List.any_cons]
          simp [PyData.eqv]
      · rename_i hj
        obtain ⟨h1, h2, h3⟩ := memI_ok h
        refine ⟨?_, by simp [PyData.canLayAll0, PyData.canLay0, h2], by simp [PyData.depthAll, PyData.depth, h3]⟩
        rw [List.any_cons, h1]
        simp [PyData.eqv, hj]
    · cases h
def memG (d : D) (ds : List D) : Option Bool := if SeqAt.shaped d && SeqAt.shaped (.list ds) then some (ds.any fun z => PyData.eqv z d) else none
def memD : D → List D → Option Bool
  | .int i, ds => (match memI i ds with
    | some b => some b
    | none => memG (.int i) ds)
  | d, ds => memG d ds
theorem memG_ok {d : D} {ds : List D} {b : Bool} (h : memG d ds = some b) : SeqAt.shaped d = true ∧ SeqAt.shaped (.list ds) = true ∧ (ds.any fun z => PyData.eqv z d) = b := by
  unfold memG at h
  split at h
  · rename_i hz
    cases h
    rw [Bool.and_eq_true] at hz
    exact ⟨hz.1, hz.2, rfl⟩
  · cases h
theorem memD_ok {d : D} {ds : List D} {b : Bool} (h : memD d ds = some b) : SeqAt.shaped d = true ∧ SeqAt.shaped (.list ds) = true ∧ (ds.any fun z => PyData.eqv z d) = b := by
  unfold memD at h
  split at h
  · rename_i i
    split at h
    · rename_i c hc
      cases h
      obtain ⟨h1, h2, h3⟩ := memI_ok hc
      refine ⟨rfl, ?_, h1⟩
      unfold SeqAt.shaped
      simp [PyData.canLay0, PyData.depth, h2, h3]
    · exact memG_ok h
  · exact memG_ok h
def rMem (K : PySem.W.Frag) (n : Bool) : R2 := fun x y H Q => ∃ d ds, L2.Dp K H x d ∧ (L2.Dp K H y (.list ds) ∨ L2.Dp K H y (.tuple ds)) ∧ SeqAt.shaped d = true ∧ SeqAt.shaped (.list ds) = true ∧ Q (.bl (if n then !(ds.any fun z => PyData.eqv z d) else ds.any fun z => PyData.eqv z d)) H
theorem sh_tup {ds : List D} (h : SeqAt.shaped (.list ds) = true) : SeqAt.shaped (.tuple ds) = true := by
  unfold SeqAt.shaped at h ⊢
  rw [Bool.and_eq_true, decide_eq_true_eq] at h ⊢
  simp only [PyData.canLay0, PyData.depth] at h ⊢
  exact h
theorem op_mem {X : Cx} (hu : X.A.units + 65 < cLine) : OpR X (compareOp .In) (rMem X.K false) := by
  intro pins s σ H x y v u Q I rx ry h
  obtain ⟨d, ds, hd, he, sd, se, q⟩ := h
  obtain ⟨as, r1⟩ := Dp.reads I d x v hd rx
  rcases he with he | he
  · obtain ⟨bs, r2⟩ := Dp.reads I (.list ds) y u he ry
    exact SeqAt.in_list_reads r2 r1 (SeqAt.canLay_of_shaped se) (SeqAt.canLay_of_shaped sd) (room_in_shaped sd hu) ⟨.bl _, H, I, rfl, q⟩
  · obtain ⟨bs, r2⟩ := Dp.reads I (.tuple ds) y u he ry
    exact SeqAt.in_tuple_reads r2 r1 (SeqAt.canLay_of_shaped se) (SeqAt.canLay_of_shaped sd) (room_in_shaped sd hu) ⟨.bl _, H, I, rfl, q⟩
theorem op_notMem {X : Cx} (hu : X.A.units + 65 < cLine) : OpR X (compareOp .NotIn) (rMem X.K true) := by
  intro pins s σ H x y v u Q I rx ry h
  obtain ⟨d, ds, hd, he, sd, se, q⟩ := h
  obtain ⟨as, r1⟩ := Dp.reads I d x v hd rx
  rcases he with he | he
  · obtain ⟨bs, r2⟩ := Dp.reads I (.list ds) y u he ry
    exact SeqAt.notIn_list_reads r2 r1 (SeqAt.canLay_of_shaped se) (SeqAt.canLay_of_shaped sd) (room_in_shaped sd hu) ⟨.bl _, H, I, rfl, q⟩
  · obtain ⟨bs, r2⟩ := Dp.reads I (.tuple ds) y u he ry
    exact SeqAt.notIn_tuple_reads r2 r1 (SeqAt.canLay_of_shaped se) (SeqAt.canLay_of_shaped sd) (room_in_shaped sd hu) ⟨.bl _, H, I, rfl, q⟩
def hIn (n : Bool) : D → D → Option PO
  | d, .list ds => (memD d ds).map fun b => .val (.bool (if n then !b else b))
  | d, .tuple ds => (memD d ds).map fun b => .val (.bool (if n then !b else b))
  | _, _ => none
theorem pr_in {K : PySem.W.Frag} {n : Bool} : Prim2 K (rMem K n) (hIn n) := by
  intro B H v w d e o Q bh hv hw he hq
  unfold hIn at he
  split at he
  · rename_i ds
    cases eb : memD d ds with
    | none =>
      rw [eb] at he
      cases he
    | some b =>
      rw [eb] at he
      cases he
      obtain ⟨h1, h2, h3⟩ := memD_ok eb
      exact ⟨d, ds, dp_l2 _ _ (shaped_noD h1) (hv.dp bh (shaped_noD h1)), .inl (dp_l2 _ _ (shaped_noD h2) (hw.dp bh (shaped_noD h2))), h1, h2, by rw [h3]; exact hq _ (.bl _)⟩
  · rename_i ds
    cases eb : memD d ds with
    | none =>
      rw [eb] at he
      cases he
    | some b =>
      rw [eb] at he
      cases he
      obtain ⟨h1, h2, h3⟩ := memD_ok eb
      have hn : noD (.tuple ds) = true := (by have := shaped_noD h2; simpa [noD] using this)
      exact ⟨d, ds, dp_l2 _ _ (shaped_noD h1) (hv.dp bh (shaped_noD h1)), .inr (dp_l2 _ _ hn (hw.dp bh hn)), h1, h2, by rw [h3]; exact hq _ (.bl _)⟩
  · cases he

/-! ### [..] * n -/
theorem dps_rep {K : PySem.W.Frag} {B : Hp} {vs : List V} {ds : List D} (h : DpAll K B vs ds) : ∀ n, DpAll K B (List.replicate n vs).flatten (List.replicate n ds).flatten
  | 0 => .nil
  | n + 1 => by
    rw [List.replicate_succ, List.replicate_succ, List.flatten_cons, List.flatten_cons]
    exact dps_app h (dps_rep h n)
/-- a fresh list times an int -/
def fRep (f g : FE) : FE := fun s => (f s).bind fun r1 s1 => (g s1).bind fun r2 s2 => match r1, r2 with
  | .tmp xs, .imm (.int k) => if bnd62 k && decide (xs.length * k.toNat ≤ mx) then .ok (.tmp (List.replicate k.toNat xs).flatten) s2 else .no
  | _, _ => .no
section
variable {X : Cx} {p : Pr} {W : WX} {f g : FE} {a b : Expr} {pos : Pos}
theorem de_rep (ha : PE X a (tE p W f)) (hb : PE X b (tE p W g)) : PE X (.BinOp a .Mult b pos) (tE p W (fRep f g)) := PE.imp (pe_op op_rep ha hb) fun σ H Q h => by
  obtain ⟨B, s, ok, q⟩ := h
  refine ⟨B, s, ok, run_mono (run_bind q) fun r1 s1 B1 H1 x1 ok1 k v hv => ⟨B1, s1, ok1, run_mono (run_bind k) fun r2 s2 B2 H2 x2 ok2 k2 w hw => ?_⟩⟩
  split at k2
  · rename_i xs kk
    by_cases hz : (bnd62 kk && decide (xs.length * kk.toNat ≤ mx)) = true
    · rw [if_pos hz] at k2
      rw [Bool.and_eq_true, decide_eq_true_eq] at hz
      obtain ⟨h1, h2⟩ := bnd62_ok hz.1
      obtain ⟨l, vs, rfl, g1, g2, g3, g4, g5⟩ := hv.later x2
      cases hw
      refine ⟨l, kk, vs, rfl, rfl, g2, by omega, by omega, by rw [dps_len g4]; exact mx_le hz.2, fun q n => ?_⟩
      exact k2 B2 _ (.newH n) (ok2.newH n mutb_lst) _ ⟨q, _, rfl, x1.dom _ (x2.dom _ n), upd_same, ok2.bh.free n, dps_rep g4 _, ok2.notOwn n⟩
    · rw [if_neg hz] at k2
      exact k2.elim
  · exact k2.elim
end

/-! ### is True, is False -/
def hIsB : D → D → Option PO
  | .bool a, .bool b => some (.val (.bool (decide (a = b))))
  | _, _ => none
theorem pr_isB {K : PySem.W.Frag} : Prim2 K rIsB hIsB := by
  intro B H v w d e o Q bh hv hw he hq
  unfold hIsB at he
  split at he
  · cases he
    exact ⟨_, _, hv.bool, hw.bool, hq _ (.bl _)⟩
  · cases he

/-! ### sorted -/
def leD (a b : D) : Bool := !PySem.W.dataLt b a
def insD (x : D) : List D → List D
  | [] => [x]
  | y :: r => if leD x y then x :: y :: r else y :: insD x r
def sortD : List D → List D
  | [] => []
  | x :: r => insD x (sortD r)
theorem le_total : PySem.W.TotalLe leD := PySem.W.sortLe_total (PyProof.Rows.listOrd PyProof.Rows.itemOrd) false (fun b => PySem.W.keyToks b)
theorem ins_perm (x : D) : ∀ r : List D, (insD x r).Perm (x :: r)
  | [] => .refl _
  | y :: r => by
    unfold insD
    split
    · exact .refl _
    · exact (List.Perm.cons y (ins_perm x r)).trans (List.Perm.swap x y r)
theorem ins_sorted (x : D) : ∀ r : List D, r.Pairwise (fun a b => leD a b = true) → (insD x r).Pairwise (fun a b => leD a b = true)
  | [], _ => List.pairwise_singleton _ _
  | y :: r, h => by
    obtain ⟨h1, h2⟩ := List.pairwise_cons.mp h
    unfold insD
    split
    · rename_i c
      exact List.pairwise_cons.mpr ⟨fun z hz => by
        rcases List.mem_cons.mp hz with e | hz
        · rw [e]; exact c
        · exact le_total.trans _ _ _ c (h1 z hz), h⟩
    · rename_i c
      refine List.pairwise_cons.mpr ⟨fun z hz => ?_, ins_sorted x r h2⟩
      rcases List.mem_cons.mp ((ins_perm x r).mem_iff.mp hz) with e | hz
      · rw [e]
        exact (le_total.total x y).resolve_left c
      · exact h1 z hz
theorem sortD_sorted : ∀ r : List D, (sortD r).Pairwise (fun a b => leD a b = true)
  | [] => .nil
  | x :: r => ins_sorted x _ (sortD_sorted r)
theorem ins_filter (c x : D) : ∀ r : List D, r.Pairwise (fun a b => leD a b = true) → (insD x r).filter (PySem.W.sameRank leD c) = (x :: r).filter (PySem.W.sameRank leD c)
  | [], _ => rfl
  | y :: r, h => by
    obtain ⟨h1, h2⟩ := List.pairwise_cons.mp h
    unfold insD
    split
    · rfl
    · rename_i c1
      have ih := ins_filter c x r h2
      rw [List.filter_cons, ih]
      by_cases hx : PySem.W.sameRank leD c x = true
      · have hy : PySem.W.sameRank leD c y = false := by
          cases hy : PySem.W.sameRank leD c y with
          | false => rfl
          | true =>
            unfold PySem.W.sameRank at hx hy
            rw [Bool.and_eq_true] at hx hy
            exact absurd (le_total.trans _ _ _ hx.2 hy.1) c1
        rw [hy, List.filter_cons, List.filter_cons, List.filter_cons, if_pos hx, if_pos hx, hy]
        rfl
      · rw [List.filter_cons, if_neg hx, List.filter_cons, if_neg hx, List.filter_cons]
theorem sortD_filter (c : D) : ∀ r : List D, (sortD r).filter (PySem.W.sameRank leD c) = r.filter (PySem.W.sameRank leD c)
  | [] => rfl
  | x :: r => by
    show (insD x (sortD r)).filter _ = _
    rw [ins_filter c x _ (sortD_sorted r), List.filter_cons, List.filter_cons, sortD_filter c r]
theorem sortD_eq (r : List D) : sortD r = r.mergeSort (PySem.W.dataLe false id) := PySem.W.sort_unique le_total (sortD_sorted r) fun c => sortD_filter c r
end DL
end

set_option Elab.async false
set_option linter.all false
set_option maxRecDepth 100000
set_option maxHeartbeats 4000000
noncomputable section
namespace DL
open PySem PySem.Spec PyProof.Rows L2

/-! ### sorted, of lists and of tuples -/
section
variable {prog : Program} {w : World} {A : Around} {E : Value → Shared → Prop} {s : Shared} {l : Addr} {vs : List Value}
theorem collect_tup {Q : List Value → Shared → Prop} (hl : s.heap.IsTuple l vs.toArray) (hz : vs.length ≤ sizeLine)
    (h : Q vs { s with heap := (s.heap.push (seqObj "list" #[] 0)).update s.heap.objs.size (Obj.mapSeq (· ++ vs.toArray)) }) : wpAny (model prog w) A (collect (.ref l)) Q E s := by
  obtain ⟨o, ho, hc, n, hd⟩ := id hl
  have ho1 : (s.heap.push (seqObj "list" #[] 0)).get? l = some o := Heap.get?_push_of_some _ ho
  have hn : (s.heap.push (seqObj "list" #[] 0)).get? s.heap.objs.size = some (seqObj "list" #[] 0) := Heap.get?_push_size _ rfl
  have hcat : ((#[] : Array Value) ++ vs.toArray).size ≤ sizeLine + 1 := by
    simp only [Array.size_append, List.size_toArray, List.length_nil]
    omega
  unfold collect
  refine wpAny_bind (wpAny_runValue (codeAny_builtin entry_proto_collect' ?_))
  show wpAny _ _ (newList [] >>= fun r => again (.builtin "list.__iadd__" ⟨[r, .ref l], []⟩)) _ _ s
  refine wpAny_bind (wpAny_newList (wpAny_pure ⟨Code.quiet_builtin _ (by decide +kernel), codeAny_builtin entry_list_iadd' ?_⟩) (Nat.zero_le _))
  show wpAny _ _ (Builtin.List.listExtendWith (.ref s.heap.objs.size) (.ref l) (.ref s.heap.objs.size)) _ _ { s with heap := s.heap.push (seqObj "list" #[] 0) }
  unfold Builtin.List.listExtendWith
  refine wpAny_bind (wpAny_typeOf (T := "tuple") ⟨o, ho1, hc⟩ ?_)
  have ht : (Value.type "tuple" == Value.type "tuple") = true := by rfl
  rw [if_pos (by rw [ht]; simp)]
  refine wpAny_bind (listItems_at ho1 hd (wpAny_bind (listItems_at (xs := #[]) (n := 0) hn rfl ?_)))
  rw [if_neg (by simp)]
  refine wpAny_bind (listUpdate_at (xs := #[]) (n := 0) hn rfl (wpAny_pure ?_) (Nat.zero_le _) hcat)
  refine wpAny_bind (wpAny_load (get?_update_seq hn _) ?_)
  have e1 : ((#[] : Array Value) ++ vs.toArray).toList = vs := by simp
  show wpAny _ _ (pure ((#[] : Array Value) ++ vs.toArray).toList) Q E _
  rw [e1]
  exact wpAny_pure h
theorem sorted_tup {β : Type} {bs : List β} {enc : β → PyData} {R : Value → β → Prop} {Q : Value → Shared → Prop} (hl : s.heap.IsTuple l vs.toArray) (e : PySem.W.EachIs R vs bs) (er : PySem.W.EachIs (fun v b => ∃ as, Reads s.heap v (enc b) as) vs bs)
    (hal : PySem.W.AllAlike (bs.map enc)) (hk : PySem.W.Sortable (bs.map enc)) (hL : bs.length ≤ sizeLine) (hu : ∀ b, b ∈ bs → A.units + 2 + (enc b).depth < cLine)
    (h : ∀ out, PySem.W.EachIs R out (bs.mergeSort (PySem.W.dataLe false enc)) → Q (.ref (s.heap.objs.size + 1)) { s with heap := sortedAll s.heap vs (List.toArray out) }) : wpAny (model prog w) A (call (.builtin "sorted") [.ref l]) Q E s := by
  have er' : PySem.W.EachIs (fun v b => ∃ as, Reads (PySem.W.sortingHeap (PySem.W.copyHeap s.heap vs) (s.heap.objs.size + 1) vs) v (enc b) as) vs bs := er.mono fun _ _ ⟨as, r⟩ => ⟨as, PyProof.Rows.Reads.keeps (fun _ _ => PySem.W.sorting_copy_old) r⟩
  have hV : vs.length ≤ sizeLine := by rw [e.length]; exact hL
  refine Calls.call_function_entry kind_sorted plain_sorted entry_sorted (args_sorted1 _) ?_
  unfold Builtin.«sorted»
  refine wpAny_bind (m := checkCount "sorted" 1 1 _) (wpAny_pure ?_)
  refine wpAny_bind (collect_tup hl hV (wpAny_bind (wpAny_newList ?_ hV)))
  have hz : ((s.heap.push (seqObj "list" #[] 0)).update s.heap.objs.size (Obj.mapSeq (· ++ vs.toArray))).objs.size = s.heap.objs.size + 1 := (Heap.size_update ..).trans (size_push' ..)
  show wpAny _ _ _ _ _ { s with heap := PySem.W.copyHeap s.heap vs }
  rw [hz]
  refine wpAny_bind (wpAny_holding (wpAny_call_entry slot_list_sort ⟨_, PySem.W.copyHeap_at s.heap vs, rfl⟩ entry_list_sort
    (PySem.W.list_sort_vals (s := { s with heap := PySem.W.copyHeap s.heap vs }) (PySem.W.copyHeap_at s.heap vs) (PySem.W.SortsAt.data (s := { s with heap := PySem.W.sortingHeap (PySem.W.copyHeap s.heap vs) (s.heap.objs.size + 1) vs })
      (PySem.W.each_map (R := fun v d => ∃ as, Reads (PySem.W.sortingHeap (PySem.W.copyHeap s.heap vs) (s.heap.objs.size + 1) vs) v d as) enc er') hal hk (PySem.W.bound_map hu)) hV ⟨_, rfl, ?_⟩) (args_list_sort _)))
  exact wpAny_pure ⟨_, rfl, h _ (PySem.W.sortVals_data false e er' hal)⟩
end
def alikeB (ds : List D) : Bool := ds.all fun d => ds.all fun e => PySem.W.alike d e
def isTupC : D → Bool
  | .tuple (_ :: _) => true
  | _ => false
def isOth : D → Bool
  | .none => false
  | .tuple _ => false
  | _ => true
def okS (ds : List D) : Bool := alikeB ds && (ds.all isTupC || ds.all isOth) && ds.all (fun d => decide (d.depth ≤ 60)) && decide (ds.length ≤ mx)
theorem okS_ok {ds : List D} (h : okS ds = true) : PySem.W.AllAlike (ds.map id) ∧ PySem.W.Sortable (ds.map id) ∧ (∀ d ∈ ds, d.depth ≤ 60) ∧ ds.length ≤ sizeLine := by
  unfold okS at h
  rw [Bool.and_eq_true, Bool.and_eq_true, Bool.and_eq_true, decide_eq_true_eq, Bool.or_eq_true] at h
  obtain ⟨⟨⟨h1, h2⟩, h3⟩, h4⟩ := h
  rw [List.map_id]
  refine ⟨fun d hd e he => List.all_eq_true.mp (List.all_eq_true.mp h1 d hd) e he, ?_, fun d hd => of_decide_eq_true (List.all_eq_true.mp h3 d hd), mx_le h4⟩
  rcases h2 with h2 | h2
  · refine .inl fun d hd => ?_
    have z := List.all_eq_true.mp h2 d hd
    unfold isTupC at z
    split at z
    · exact ⟨_, _, rfl⟩
    · cases z
  · refine .inr fun d hd => ?_
    have z := List.all_eq_true.mp h2 d hd
    unfold isOth at z
    split at z
    · cases z
    · cases z
    · rename_i n1 n2
      exact ⟨n1, fun xs e => n2 xs e⟩
def hSorted : List D → Option PO
  | [.list ds] => if okS ds then some (.lst (sortD ds)) else none
  | [.tuple ds] => if okS ds then some (.lst (sortD ds)) else none
  | _ => none
def rSortD (K : PySem.W.Frag) : List V → Hp → VK → Prop := fun xs H Q => ∃ (a : Addr) (ws : List V) (B : Hp) (ds : List D), xs = [.ref a] ∧ (SqL K H a ws ∨ SqT K H a ws) ∧ Same B H ∧ DpAll K B ws ds ∧ okS ds = true ∧
  ∀ p ys, H p = none → DpAll K B ys (sortD ds) → Q (.ref p) (upd H p (.lst ys))
theorem each_of {K : PySem.W.Frag} {B : Hp} : ∀ {ws : List V} {us : List Value} {ds : List D}, Vals ws us → DpAll K B ws ds → PySem.W.EachIs (fun v d => ∃ x, RelV x v ∧ Dp K B x d) us ds
  | _, _, _, .nil, .nil => .nil
  | _, _, _, .cons r t, .cons d e => .cons ⟨_, r, d⟩ (each_of t e)
theorem each_ofN {K : PySem.W.Frag} {B : Hp} : ∀ {ws : List V} {us : List Value} {ds : List D}, Vals ws us → DpAll K B ws ds → (∀ d ∈ ds, noD d = true) → PySem.W.EachIs (fun v d => ∃ x, RelV x v ∧ Dp K B x d ∧ noD d = true) us ds
  | _, _, _, .nil, .nil, _ => .nil
  | _, _, _, .cons r t, .cons d e, h => .cons ⟨_, r, d, h _ (List.mem_cons_self ..)⟩ (each_ofN t e fun d' m => h d' (List.mem_cons_of_mem _ m))
theorem of_each {K : PySem.W.Frag} {B : Hp} : ∀ {us : List Value} {ds : List D}, PySem.W.EachIs (fun v d => ∃ x, RelV x v ∧ Dp K B x d) us ds → ∃ ws, Vals ws us ∧ DpAll K B ws ds
  | _, _, .nil => ⟨[], .nil, .nil⟩
  | _, _, .cons ⟨x, r, d⟩ t => by
    obtain ⟨ws, h1, h2⟩ := of_each t
    exact ⟨x :: ws, .cons r h1, .cons d h2⟩
theorem cr_sortD {X : Cx} (hu : X.A.units + 64 < cLine) : CallR X (.builtin "sorted") (rSortD X.K) := by
  intro pins s σ H xs us Q I r h
  obtain ⟨a, ws, B, ds, rfl, hs, bh, hd, ok, q⟩ := h
  rw [Vals.ref1 r]
  obtain ⟨k1, k2, k3, k4⟩ := okS_ok ok
  have main : ∀ {its : List Value} (out : List Value), Vals ws its → PySem.W.EachIs (fun v d => ∃ x, RelV x v ∧ Dp X.K B x d) out (ds.mergeSort (PySem.W.dataLe false id)) →
      EP X pins σ Q (.ref (s.heap.objs.size + 1)) { s with heap := sortedAll s.heap its (List.toArray out) } := fun {its} out rv eo => by
    obtain ⟨ys, h1, h2⟩ := of_each eo
    rw [← sortD_eq] at h2
    obtain ⟨ep, he'⟩ := PyProof.Rows.sortedAll_at s.heap its out.toArray
    have hlen : ys.length ≤ sizeLine := by
      rw [dps_len h2, sortD_eq, List.length_mergeSort]
      exact k4
    exact ⟨.ref _, upd H (s.heap.objs.size + 1) (.lst ys), I.laid (t' := s.toks) (fun _ _ => PyProof.Rows.sortedAll_old) (Nat.le_succ _) ⟨hlen, out, ep, h1, he'⟩, rfl, q _ _ (I.hok.fresh (Nat.le_succ _)) h2⟩
  have nD : ∀ d ∈ ds, noD d = true := fun d m => alike_noD d (by
    have := k1 d (by rw [List.map_id]; exact m) d (by rw [List.map_id]; exact m)
    exact this)
  have reads : ∀ {its : List Value}, Vals ws its → PySem.W.EachIs (fun v d => ∃ as, Reads s.heap v (id d) as) its ds := fun {its} rv => (each_ofN rv hd nD).mono fun v d ⟨x, rx, dx, nd⟩ => Dp.reads I d x v (dp_l2 _ _ nd (dp_same bh _ _ dx)) rx
  have dep : ∀ b, b ∈ ds → X.A.units + 2 + (id b).depth < cLine := fun b hb => by
    have := k3 b hb
    show X.A.units + 2 + b.depth < cLine
    omega
  rcases hs with hs | hs
  · obtain ⟨its, rv, hl, hz⟩ := I.list hs
    exact PySem.W.sorted_data hl.isList (each_of rv hd) (reads rv) k1 k2 k4 dep fun out _ eo => main out rv eo
  · obtain ⟨its, rv, hl, hz⟩ := I.tuple hs
    exact sorted_tup hl (each_of rv hd) (reads rv) k1 k2 k4 dep fun out eo => main out rv eo
theorem pr_sorted {K : PySem.W.Frag} : PrimOk K (rSortD K) hSorted := by
  intro B H vs ds o Q bh hv he hq
  unfold hSorted at he
  split at he
  · split at he
    · rename_i ok
      cases he
      obtain ⟨v, rfl, h⟩ := vs1 hv
      obtain ⟨a, ws, rfl, h1, h2⟩ := h.list bh
      exact ⟨a, ws, B, _, rfl, .inl h1, bh, h2, ok, fun p ys n d => hq p ys n d⟩
    · cases he
  · split at he
    · rename_i ok
      cases he
      obtain ⟨v, rfl, h⟩ := vs1 hv
      obtain ⟨a, ws, rfl, h1, h2⟩ := h.tup bh
      exact ⟨a, ws, B, _, rfl, .inr h1, bh, h2, ok, fun p ys n d => hq p ys n d⟩
    · cases he
  · cases he
end DL
end

set_option Elab.async false
set_option linter.all false
set_option maxRecDepth 100000
set_option maxHeartbeats 4000000
noncomputable section
namespace DL
open PySem PySem.Spec PyProof.Rows L2

/-! ### set(a list of ints), sorted of it -/
section
variable {P : Program} {w : World} {A : Around} {E : Value → Shared → Prop} {s : Shared}
/-- the set object as it is born -/
abbrev bare (w : World) : Obj := { cls := .type "set", dict := none, data := .set #[] 0 (.fresh 0 0 (!w.params.followText "set-order")) }
set_option maxHeartbeats 8000000 in
theorem set_of_list {l : Addr} {its : Array Value} (ns : List Int) {Q : Value → Shared → Prop} (hh : A.handled = none) (hl : s.heap.IsList l its) (hi : IntsAre its.toList ns) (hb : ns.length + 1 < scanBound)
    (h : ∀ (h' : Heap) (tk c : Nat), SetR w h' s.heap.objs.size (fun j => decide (j ∈ ns)) c → c ≤ ns.length → (∀ b o, s.heap.get? b = some o → h'.get? b = some o) → Q (.ref s.heap.objs.size) { s with heap := h', toks := tk }) :
    wpAny (model P w) A (call (.type "set") [.ref l]) Q E s := by
  have eN : its.size = ns.length := (Array.length_toList).symm.trans (IntsAre.length hi)
  obtain ⟨cc, tl, hmro⟩ := F.called_set.mro
  have f1 := F.called_set.made
  have f2 := F.called_set.sub
  have f3 := F.called_set.notType
  have f4 := F.called_set.canCreate
  have f5 := F.typeCall_set_1 (.ref l)
  refine wpAny_call (codeAny_of_tree ?_)
  show wpAny _ _ (callAny (.type "set") _) _ _ _
  refine wpAny_pure ⟨Code.quiet_builtin _ (by decide +kernel), codeAny_builtin F.entry_type_call ?_⟩
  rw [Around.under_plain (weight_type_call_type "set" [.ref l] []) rfl]
  repeat (any_goals (first | assumption | wp_step))
  refine codeAny_mono (code_set_led1 (.ref l) (E := E) (Q₁ := fun ob s1 => ob = .ref s.heap.objs.size ∧ s1 = { s with heap := s.heap.push (bare w) }) ⟨rfl, rfl⟩) fun r s1 hr => ?_
  cases r with
  | error e => exact hr
  | ok fl =>
    cases fl with
    | ret ob =>
      obtain ⟨rfl, rfl⟩ := hr
      have gS : (s.heap.push (bare w)).get? s.heap.objs.size = some (bare w) := Heap.get?_push_size _ rfl
      have gT : Shared.TypeIs { s with heap := s.heap.push (bare w) } (.ref s.heap.objs.size) "set" := ⟨_, gS, rfl⟩
      have f6 := F.called_set.init.lookup
      have f7 := F.called_set.init.bind (.ref s.heap.objs.size)
      repeat (any_goals (first | assumption | wp_step))
      refine codeAny_mono (codeAny_call_builtin (R := wants (fun r s2 => r = .none ∧ ∃ h' tk c, s2 = { s with heap := h', toks := tk } ∧ SetR w h' s.heap.objs.size (fun j => decide (j ∈ ns)) c ∧ c ≤ ns.length ∧
          (∀ b o, s.heap.get? b = some o → h'.get? b = some o)) E) F.called_set.init.plain F.entry_set_init (check_set_init_1 gT ?_)) fun r2 s2 hr2 => ?_
      · obtain ⟨ol, hol, hcl, nl, hdl⟩ := hl
        obtain ⟨oc, od, oda, osl⟩ := ol
        simp only at hcl hdl
        subst hcl; subst hdl
        have g1 : (s.heap.push (bare w)).get? l = some { cls := .type "list", dict := od, data := .seq its nl, slots := osl } := Heap.get?_push_of_some _ hol
        have f8 := F.sub_list_set
        have f9 := F.sub_list_frozenset
        have f10 : (Value.type "list" == Value.type "dict") = false := by decide
        have g2 : (s.heap.push (bare w)).IsList l its := ⟨_, g1, rfl, nl, rfl⟩
        unfold Builtin.«set.__init__» noKeywords Builtin.Frozenset.updateFrom
        generalize hPI : pyIter = PI
        wp_walk
        subst hPI
        refine wpAny_pyIter_list g2 (wpAny_bind (wpAny_runValue ?_))
        have lt : l < s.heap.objs.size := Heap.lt_size hol
        have hd3 : A.in1.in1.in1.handled = none := by simp [hh]
        have z1 : (s.heap.push (bare w)).objs.size = s.heap.objs.size + 1 := Heap.size_push ..
        have nI : l ≠ (s.heap.push (bare w)).objs.size := by
          rw [z1]
          exact Nat.ne_of_lt (Nat.lt_succ_of_lt lt)
        have nS : s.heap.objs.size ∉ [(s.heap.push (bare w)).objs.size, l] := by
          rw [z1]
          simp only [List.mem_cons, List.mem_singleton, List.not_mem_nil, or_false, not_or]
          exact ⟨Nat.ne_of_lt (Nat.lt_succ_self _), Nat.ne_of_gt lt⟩
        have vals : ∀ (i : Nat) (v : Value), its[i]? = some v → ∃ k t, ns[i]? = some k ∧ v = .int k t := fun i v hv => by
          have hlt : i < ns.length := by rw [← eN]; exact (Array.getElem?_eq_some_iff.mp hv).1
          obtain ⟨t, e⟩ := PyProof.Rows.IntsAre.int_at hi i v (by rw [Array.getElem?_toList]; exact hv)
          rw [List.getD_eq_getElem?_getD, List.getElem?_eq_getElem hlt] at e
          exact ⟨_, t, List.getElem?_eq_getElem hlt, e⟩
        refine set_update_ints ((Walks.list hd3 _ l nI its).toS) s.heap.objs.size nS ns eN hb vals (its.size - 0) 0 _ (by omega) (Nat.zero_le _) ⟨⟨_, Heap.get?_push_size _ rfl, rfl, rfl⟩, (g2.push _)⟩ ?start ?fin
        case start => exact ⟨0, Nat.le_refl 0, setR_new_at (Heap.get?_push_of_some _ gS)⟩
        case fin =>
          intro s' c' hm hc' hS'
          obtain ⟨h', g', d', tk', os'⟩ := s'
          obtain rfl : g' = s.gens := hm.gens
          obtain rfl : d' = s.drawn := hm.drawn
          obtain rfl : os' = s.os := hm.os
          rw [eN] at hc'
          show wpAny _ _ _ _ _ _
          refine wpAny_pure ?_
          show wpAny _ _ (ret Value.none) _ _ _
          refine wpAny_pure ⟨rfl, h', tk', c', rfl, hS', hc', fun b o e => ?_⟩
          have b0 : b < s.heap.objs.size := Heap.lt_size e
          exact hm.heap b o (by
            simp only [List.mem_cons, List.mem_singleton, List.not_mem_nil, or_false, not_or]
            exact ⟨Nat.ne_of_lt b0, by rw [z1]; exact Nat.ne_of_lt (Nat.lt_succ_of_lt b0)⟩) (Heap.get?_push_of_some _ (Heap.get?_push_of_some _ e))
      · cases r2 with
        | error e => exact hr2
        | ok f2' =>
          cases f2' with
          | ret r =>
            obtain ⟨rfl, h', tk, c', rfl, hS', hc', hk'⟩ := hr2
            repeat (any_goals (first | assumption | wp_step))
            exact h _ _ _ hS' hc' hk'
          | _ => exact hr2.elim
    | _ => exact hr.elim
end
/-- set(xs), xs a list of ints: a set that nothing else sees -/
def rSetL (K : PySem.W.Frag) (w : World) : List V → Hp → VK → Prop := fun xs H Q => ∃ (a : Addr) (ns : List Int), xs = [.ref a] ∧ SqL K H a (ns.map V.int) ∧ ns.length < 60 ∧
  ∀ (p : Addr) (c : Nat), H p = none → c ≤ ns.length → Q (.ref p) (upd H p (SetO w p (fun j => decide (j ∈ ns)) c))
theorem call_setL {X : Cx} (hc : X.calm = true) : CallR X (.type "set") (rSetL X.K X.w) := by
  intro pins s σ H xs us Q I r h
  obtain ⟨a, ns, rfl, hs, hn, q⟩ := h
  rw [Vals.ref1 r]
  obtain ⟨its, rv, hl, hz⟩ := I.list hs
  have hi : IntsAre its.toArray.toList ns := ints_of_vals rv
  refine set_of_list ns (I.ok.hd hc) hl.isList hi (by unfold scanBound; omega) fun h' tk c R hcn k => ?_
  exact ⟨.ref _, upd H s.heap.objs.size (SetO X.w s.heap.objs.size (fun j => decide (j ∈ ns)) c), I.laid (t' := tk) k (Nat.le_refl _) (setO_new R), rfl, q _ c (I.hok.fresh (Nat.le_refl _)) hcn⟩

/-- the ints, sorted, each once -/
def insI (x : Int) : List Int → List Int
  | [] => [x]
  | y :: r => if x < y then x :: y :: r else if x = y then y :: r else y :: insI x r
def setI : List Int → List Int
  | [] => []
  | x :: r => insI x (setI r)
theorem insI_mem (x k : Int) : ∀ r : List Int, k ∈ insI x r ↔ k = x ∨ k ∈ r
  | [] => by simp [insI]
  | y :: r => by
    unfold insI
    split
    · simp
    · split
      · rename_i e
        subst e
        simp
      · rw [List.mem_cons, insI_mem x k r, List.mem_cons]
        constructor
        · rintro (h | h | h)
          · exact .inr (.inl h)
          · exact .inl h
          · exact .inr (.inr h)
        · rintro (h | h | h)
          · exact .inr (.inl h)
          · exact .inl h
          · exact .inr (.inr h)
theorem insI_pw (x : Int) : ∀ r : List Int, r.Pairwise (· < ·) → (insI x r).Pairwise (· < ·)
  | [], _ => List.pairwise_singleton _ _
  | y :: r, h => by
    obtain ⟨h1, h2⟩ := List.pairwise_cons.mp h
    unfold insI
    split
    · rename_i c
      refine List.pairwise_cons.mpr ⟨fun z hz => ?_, h⟩
      rcases List.mem_cons.mp hz with e | hz
      · rw [e]; exact c
      · exact Int.lt_trans c (h1 z hz)
    · split
      · exact h
      · rename_i c1 c2
        refine List.pairwise_cons.mpr ⟨fun z hz => ?_, insI_pw x r h2⟩
        rcases (insI_mem x z r).mp hz with e | hz
        · rw [e]; omega
        · exact h1 z hz
theorem setI_mem (k : Int) : ∀ r : List Int, k ∈ setI r ↔ k ∈ r
  | [] => by simp [setI]
  | x :: r => by
    show k ∈ insI x (setI r) ↔ _
    rw [insI_mem, setI_mem k r, List.mem_cons]
theorem setI_pw : ∀ r : List Int, (setI r).Pairwise (· < ·)
  | [] => .nil
  | x :: r => insI_pw x _ (setI_pw r)
theorem pw_unique : ∀ {l m : List Int}, l.Pairwise (· < ·) → m.Pairwise (· < ·) → (∀ k, k ∈ l ↔ k ∈ m) → l = m
  | [], [], _, _, _ => rfl
  | [], y :: m, _, _, h => absurd ((h y).mpr List.mem_cons_self) (by simp)
  | x :: l, [], _, _, h => absurd ((h x).mp List.mem_cons_self) (by simp)
  | x :: l, y :: m, hl, hm, h => by
    obtain ⟨a1, a2⟩ := List.pairwise_cons.mp hl
    obtain ⟨b1, b2⟩ := List.pairwise_cons.mp hm
    have e : x = y := by
      rcases List.mem_cons.mp ((h x).mp List.mem_cons_self) with e | hx
      · exact e
      · rcases List.mem_cons.mp ((h y).mpr List.mem_cons_self) with e | hy
        · exact e.symm
        · have := a1 y hy
          have := b1 x hx
          omega
    subst e
    rw [pw_unique a2 b2 fun k => ⟨fun hk => by
      rcases List.mem_cons.mp ((h k).mp (List.mem_cons_of_mem _ hk)) with e | z
      · have := a1 k hk
        omega
      · exact z, fun hk => by
      rcases List.mem_cons.mp ((h k).mpr (List.mem_cons_of_mem _ hk)) with e | z
      · have := b1 k hk
        omega
      · exact z⟩]
/-- sorted(set(e)), e a list of ints, fewer than 60 -/
def fSortSet (f : FA) : FE := fun s => (f s).bind fun rs s1 => match views s1 rs with
  | some [.list xs] => (match asInts xs with
    | some ns => if ns.length < 60 then .ok (.tmp ((setI ns).map PyData.int)) s1 else .no
    | none => .no)
  | _ => .no
theorem dps_ints {K : PySem.W.Frag} {B : Hp} : ∀ ns : List Int, DpAll K B (ns.map V.int) (ns.map PyData.int)
  | [] => .nil
  | n :: ns => .cons (.int n) (dps_ints ns)
section
variable {X : Cx} {p : Pr} {W : WX} {fa : FA} {e : Expr} {pos pos2 p1 p2 : Pos}
theorem de_sortSet (hc : X.calm = true) (hg : Gl X "sorted") (hm : X.mg "sorted" = none) (hg2 : Gl X "set") (hm2 : X.mg "set" = none) (ha : PA X [e] (tA p W fa)) (eK : p.K = X.K := by rfl)
    (h1 : starEach [e] X.env = [(false, eval e X.env)] := by rfl) (h2 : (backTo pos2 (starEach [] X.env)).any (·.1) = false := by rfl)
    (h3 : starEach [Expr.Call (.Name "set" p2) [e] [] pos2] X.env = (false, eval (Expr.Call (.Name "set" p2) [e] [] pos2) X.env) :: starEach [] X.env := by rfl) (h4 : (backTo pos (starEach [] X.env)).any (·.1) = false := by rfl) :
    PE X (.Call (.Name "sorted" p1) [.Call (.Name "set" p2) [e] [] pos2] [] pos) (tE p W (fSortSet fa)) :=
  PE.imp (pe_callB (cr_sortedSet hc) hg hm PyProof.Rows.boot_sorted (pa_cons (pe_callTy (call_setL hc) hg2 hm2 PyProof.Rows.boot_set ha (by decide) (by decide) h1 h2) pa_nil h3) (by decide) (by decide) h3 h4) fun σ H Q h => by
  obtain ⟨B, s, ok, q⟩ := h
  refine ⟨B, s, ok, run_mono (run_bind q) fun rs s1 B1 H1 x1 ok1 k vs hv => ?_⟩
  split at k
  · rename_i xs ev
    split at k
    · rename_i ns en
      by_cases hn : ns.length < 60
      · rw [if_pos hn] at k
        obtain ⟨v, rfl, h⟩ := vs1 (vws_of ok1 hv ev)
        obtain ⟨a, ws, rfl, g1, g2⟩ := h.list ok1.bh
        have ew := asInts_vs g2 en
        subst ew
        refine ⟨a, ns, rfl, (by rw [← eK]; exact g1), hn, fun p1 c n hcn => ⟨p1, _, c, rfl, upd_same, by omega, fun ms q hp hm hl n2 => ?_⟩⟩
        have em : ms = setI ns := pw_unique hp (setI_pw ns) fun k => by rw [hm, setI_mem, decide_eq_true_eq]
        subst em
        have n1 := n
        have n3 : H1 q = none := upd_none n2
        have okS := ok1.newH (o := SetO X.w p1 (fun j => decide (j ∈ ns)) c) n1 (fun _ z => nomatch z)
        have x2 : Ext σ s1 s1 B1 H1 B1 (upd (upd H1 p1 (SetO X.w p1 (fun j => decide (j ∈ ns)) c)) q (.lst ((setI ns).map V.int))) := (Ext.newH n1).trans (.newH n2)
        exact k B1 _ x2 (okS.newH n2 mutb_lst) _ ⟨q, _, rfl, x1.dom _ n3, upd_same, ok1.bh.free n3, dps_ints _, okS.notOwn n2⟩
      · rw [if_neg hn] at k
        exact k.elim
    · exact k.elim
  · exact k.elim
end
end DL
end

set_option Elab.async false
set_option linter.all false
set_option maxRecDepth 100000
set_option maxHeartbeats 4000000
noncomputable section
namespace DL
open PySem PySem.Spec PyProof.Rows L2

/-! ### enumerate(a tuple) -/
set_option maxHeartbeats 8000000 in
theorem enum_new1 {v : Value} {o : Obj} {Hh : Heap → Prop} (Bg : Begins v o Hh) :
    Meets (Builtin.«enumerate.__new__» ⟨[.type "enumerate", v], []⟩) (fun _ R s => Hh s.heap ∧
      R (.ok (.ret (.ref (s.heap.push o).objs.size))) { s with heap := (s.heap.push o).push { cls := .type "enumerate", data := .fields #[.none, .bool false, .ref s.heap.objs.size, rawInt 0, .none, .none] } }) :=
  .of_wp fun prog w A R s h => by
    obtain ⟨hp, g, d, tk, os⟩ := s
    obtain ⟨h1, h⟩ := h
    have hsub := sub_enumerate
    have q1 : ∀ {A' : Around} {E : Value → Shared → Prop} {Q : Value → Shared → Prop}, Q (.ref hp.objs.size) ⟨hp.push o, g, d, tk, os⟩ → wpAny (model prog w) A' (pyIter v) Q E ⟨hp, g, d, tk, os⟩ :=
      fun q => Bg.iter prog w _ _ ⟨hp, g, d, tk, os⟩ _ h1 q
    wp_walk using q1
    refine wpAny_stack_any fun st => wpAny_pure ?_
    split
    · rename_i c _ _ _ _ _
      cases (c == Value.type "enumerate") <;> (wp_walk using q1; exact ⟨_, rfl, h⟩)
    · wp_walk using q1
      exact ⟨_, rfl, h⟩
section
variable {prog : Program} {w : World} {A : Around} {E : Value → Shared → Prop} {s : Shared}
theorem call_enum1 {v : Value} {o : Obj} {Hh : Heap → Prop} {Q : Value → Shared → Prop} (Bg : Begins v o Hh) (h1 : Hh s.heap)
    (h : ∀ h', IsEnum h' (s.heap.objs.size + 1) s.heap.objs.size 0 .none → h'.get? s.heap.objs.size = some o → (∀ b o, s.heap.get? b = some o → h'.get? b = some o) → Q (.ref (s.heap.objs.size + 1)) { s with heap := h' }) :
    wpAny (model prog w) A (call (.type "enumerate") [v]) Q E s := by
  refine callType_new F.called_enumerate (by decide) (F.typeCall_enumerate_1 _) (F.newCall_enumerate_1 _) (fun obj => F.args_object_init_2 obj _) F.entry_enumerate_new (enum_new1 Bg) ⟨h1, ?_⟩
  have hz : (s.heap.push o).objs.size = s.heap.objs.size + 1 := Heap.size_push ..
  show _ ∧ _
  rw [hz]
  have he : IsEnum ((s.heap.push o).push { cls := .type "enumerate", data := .fields #[.none, .bool false, .ref s.heap.objs.size, rawInt 0, .none, .none] }) (s.heap.objs.size + 1) s.heap.objs.size 0 .none := by
    have q := Heap.get?_push_size (s.heap.push o) (o := { cls := .type "enumerate", data := .fields #[.none, .bool false, .ref s.heap.objs.size, rawInt 0, .none, .none] }) rfl
    rw [hz] at q
    exact q
  exact ⟨⟨_, he, rfl⟩, h _ he (Heap.get?_push_of_some _ (Heap.get?_push_size _ Bg.free)) fun b o x => Heap.get?_push_of_some _ (Heap.get?_push_of_some _ x)⟩
end
/-- the tuple at a as it stands, each item in a new pair -/
def IteT (K : PySem.W.Frag) (a : Addr) : It :=
  ⟨fun i H => ∃ (xs : List V) (x : V), SqT K H a xs ∧ xs[i]? = some x, fun i H v H' => ∃ T x, v = .ref T ∧ H T = none ∧ H' = upd H T (.tup [.int (i : Nat), x]) ∧ ∀ xs, SqT K H a xs → xs[i]? = some x, fun i H => ∃ xs : List V, SqT K H a xs ∧ xs.length = i⟩
theorem turn_enumT {P : Program} {w : World} {K : PySem.W.Frag} {elts : List Expr} {kk : Nat} {tpos : Pos} (a e it : Addr) (ha : a ≠ it) (ha2 : a ≠ e) (hne : e ≠ it) :
    Turn P w K (.Tuple elts kk tpos) (IteT K a) [e, it] e (fun i h => (∃ old, IsEnum h e it ((i : Nat) : Int) old) ∧ h.IsTupleIter it a i) where
  mem := by simp
  obj := fun i h st b hb => by
    obtain ⟨⟨old, he⟩, o, ho, hc, hd⟩ := st
    rcases List.mem_cons.mp hb with z | z
    · rw [z]; exact ⟨_, he, fun v q => nomatch q⟩
    · rw [List.mem_singleton.mp z]; exact ⟨o, ho, fun v q => by rw [hd] at q; cases q⟩
  keep := fun i h h' st k => ⟨⟨st.1.choose, k e (by simp) _ st.1.choose_spec⟩, st.2.at fun o q => k it (by simp) o q⟩
  item := by
    intro X hP hw hK hc i pins s σ H E I hf st hg
    subst hP hw hK
    obtain ⟨⟨old, he⟩, hit⟩ := st
    obtain ⟨xs, x, hq, hx⟩ := hg
    obtain ⟨its, rv, p, hz⟩ := I.tuple hq
    obtain ⟨u, hu, ru⟩ := rv.get hx
    have hel : e < s.heap.objs.size := Heap.lt_size he
    have hil : it < s.heap.objs.size := by obtain ⟨_, q, _⟩ := hit; exact Heap.lt_size q
    have hlt : i < its.toArray.size := by simpa using (List.getElem?_eq_some_iff.mp hu).1
    refine wpAny_pyNext_enum_itemC (Draws.tuple (show X.A.in1.handled = none from I.ok.hd hc) it a ha its.toArray) he ⟨hit, p⟩ hlt hne (by simp [hne, ha2.symm]) fun x' h' tk hpx ho hst hT hsz hk => ?_
    have ex : x' = u := by
      have hpx' : its[i]? = some x' := by simpa using hpx
      rw [hu] at hpx'
      exact (Option.some.inj hpx').symm
    subst ex
    refine ⟨_, rfl, wpAny_letOwnedTupleGo_enum (s := { s with heap := h', toks := tk + 1 }) ho fun h'' he' sb => ?_⟩
    have hT2 : h''.get? s.heap.objs.size = some { cls := .type "tuple", data := .seq #[.int i tk, x'] } := (sb.2 _ (Nat.ne_of_gt hel)).trans hT
    have new : ObjOk X.prog X.w (upd H s.heap.objs.size (.tup [.int (i : Nat), x])) h'' s.heap.objs.size (.tup [.int (i : Nat), x]) :=
      ⟨by show 2 ≤ sizeLine; decide, [.int i tk, x'], .cons ⟨_, rfl⟩ (.cons ru .nil), ⟨_, hT2, rfl, _, rfl⟩⟩
    have I1 : Inv X pins σ (upd H s.heap.objs.size (.tup [.int (i : Nat), x])) { s with heap := h'', toks := tk + 1 } :=
      I.turnedNew (ch := [e, it]) (fun b ob hb q => (sb.2 b (fun z => hb (by simp [z]))).trans (hk b ob (fun z => hb (by simp [z])) (fun z => hb (by simp [z])) q)) hf (Nat.le_refl _) new
    refine ⟨.ref s.heap.objs.size, _, I1, rfl, ⟨_, x, rfl, I.hok.fresh (Nat.le_refl _), rfl, fun ys hy => by rw [I.tuple_inj hy hq]; exact hx⟩, ⟨⟨x', ?_⟩, hst.1.at fun o q => (sb.2 it (Ne.symm hne)).trans q⟩, fun b hb => ?_⟩
    · have e1 : ((i + 1 : Nat) : Int) = (i : Int) + 1 := by omega
      rw [e1]
      exact he'
    · have hb' : b < s.heap.objs.size := by
        rcases List.mem_cons.mp hb with z | z
        · rw [z]; exact hel
        · rw [List.mem_singleton.mp z]; exact hil
      rw [upd_ne (Nat.ne_of_lt hb')]
      exact (hf b hb).1
  done := by
    intro X hP hw hK hc i pins s σ H E I hf st hg
    subst hP hw hK
    obtain ⟨⟨old, he⟩, hit⟩ := st
    obtain ⟨xs, hq, hx⟩ := hg
    obtain ⟨its, rv, p, hz⟩ := I.tuple hq
    obtain ⟨f0, f1, f2, f3, f4, f5⟩ := hf it (by simp)
    have hl := rv.length
    have e2 : its.toArray.size = i := by
      rw [List.size_toArray]
      omega
    subst e2
    exact wpAny_pyNext_enum_endD (Draws.tuple (show X.A.in1.handled = none from I.ok.hd hc) it a ha its.toArray) he ⟨hit, p⟩ fun h' eb => ⟨rfl, I.turned (t' := s.toks) (fun b o hb q => eb b o hb q) f0 f1 f3 f4 f5⟩
  self := fun A i s Q E st h => let ⟨⟨_, he⟩, _⟩ := st; wpAny_pyIter_enum he h
def iEnumT (K : PySem.W.Frag) (ta : TA) : TI := fun σ H R => ta σ H fun vs H1 => ∃ a xs, vs = [.ref a] ∧ SqT K H1 a xs ∧ R (IteT K a) H1
theorem pi_enumT {X : Cx} {e : Expr} {ta : TA} {p pos tpos : Pos} {elts : List Expr} {kk : Nat} (hg : Gl X "enumerate") (hm : X.mg "enumerate" = none) (ha : PA X [e] ta) (hs : starEach [e] X.env = [(false, eval e X.env)] := by rfl) :
    PI X (.Tuple elts kk tpos) (.Call (.Name "enumerate" p) [e] [] pos) (iEnumT X.K ta) := by
  refine ⟨fun pins s σ H R I h => ?_⟩
  refine Call_ (ld_blt I hg hm boot_enumerate (PyProof.Rows.callWith_type1 (thn (ha.run pos pins s σ H _ I h) fun us s1 ⟨vs, H1, I1, r1, q1⟩ => ?_) hs rfl))
  obtain ⟨a, xs, ex, hq, q⟩ := q1
  subst ex
  cases r1 with
  | cons r rr =>
    cases rr
    cases r
    obtain ⟨its, rv, pt, hz⟩ := I1.tuple hq
    have hal : a < s1.heap.objs.size := by
      obtain ⟨o, ho, _⟩ := pt
      exact Heap.lt_size ho
    refine call_enum1 (begins_tuple a its.toArray) pt fun h' he hit hk => wpAny_pyIter_enum he ?_
    have I2 : Inv X pins σ H1 { s1 with heap := h' } := I1.kept (t' := s1.toks) hk
    refine ⟨s1.heap.objs.size + 1, [s1.heap.objs.size + 1, s1.heap.objs.size], _, _, H1, rfl, I2, turn_enumT a (s1.heap.objs.size + 1) s1.heap.objs.size (Nat.ne_of_lt hal) (Nat.ne_of_lt (Nat.lt_succ_of_lt hal)) (Nat.succ_ne_self _), ⟨⟨.none, he⟩, ⟨_, hit, rfl, rfl⟩⟩, fun b hb => ?_, q⟩
    have hle : s1.heap.objs.size ≤ b := by
      rcases List.mem_cons.mp hb with z | z
      · rw [z]; exact Nat.le_add_right _ _
      · rw [List.mem_singleton.mp z]; exact Nat.le_refl _
    exact I1.fpOk hle (I1.hok.fresh hle)

/-! ### enumerate, by data -/
def enumD : Int → List D → List D
  | _, [] => []
  | i, d :: r => .tuple [.int i, d] :: enumD (i + 1) r
theorem enumD_len : ∀ (ds : List D) (i : Int), (enumD i ds).length = ds.length
  | [], _ => rfl
  | _ :: r, i => congrArg (· + 1) (enumD_len r (i + 1))
theorem enumD_get : ∀ (ds : List D) (k : Int) (i : Nat) (x : D), (enumD k ds)[i]? = some x → ∃ d, ds[i]? = some d ∧ x = .tuple [.int (k + i), d]
  | [], _, _, _, h => by simp [enumD] at h
  | d :: r, k, 0, x, h => by
    have e := Option.some.inj h
    exact ⟨d, rfl, by rw [← e]; simp⟩
  | d :: r, k, i + 1, x, h => by
    obtain ⟨d', h1, h2⟩ := enumD_get r (k + 1) i x h
    refine ⟨d', h1, ?_⟩
    rw [h2]
    congr 3
    omega
theorem itd_enumL {K : PySem.W.Frag} {B : Hp} {a : Addr} {vs : List V} {ds : List D} (h : SqL K B a vs) (hd : DpAll K B vs ds) : ItD K B (Ite K a) (enumD 0 ds) := fun B2 H2 b1 b2 tb => by
  have hs : SqL K H2 a vs := sqL_same b2 (sqL_same b1 h)
  refine ⟨⟨vs, hs, by rw [enumD_len]; exact Nat.le_of_eq (dps_len hd)⟩, fun i d e => ?_⟩
  obtain ⟨d', e1, rfl⟩ := enumD_get _ _ _ _ e
  obtain ⟨v, hv, hx⟩ := dps_get hd e1
  refine ⟨⟨vs, v, hs, hv⟩, fun x H3 y => ?_⟩
  obtain ⟨T, x', rfl, hT, rfl, y⟩ := y
  have ex : v = x' := Option.some.inj (hv.symm.trans (y vs hs))
  subst ex
  have hT2 : B2 T = none := b2.free hT
  refine ⟨upd B2 T (.tup [.int (i : Nat), v]), .newB b2 hT, ?_⟩
  have ei : (0 : Int) + (i : Nat) = (i : Nat) := by omega
  rw [ei]
  exact .tup upd_same (.cons (.int _) (.cons (dp_same (b1.trans (same_upd hT2)) _ _ hx) .nil))
theorem itd_enumT {K : PySem.W.Frag} {B : Hp} {a : Addr} {vs : List V} {ds : List D} (h : SqT K B a vs) (hd : DpAll K B vs ds) : ItD K B (IteT K a) (enumD 0 ds) := fun B2 H2 b1 b2 tb => by
  have hs : SqT K H2 a vs := sqT_same b2 (sqT_same b1 h)
  refine ⟨⟨vs, hs, by rw [enumD_len]; exact dps_len hd⟩, fun i d e => ?_⟩
  obtain ⟨d', e1, rfl⟩ := enumD_get _ _ _ _ e
  obtain ⟨v, hv, hx⟩ := dps_get hd e1
  refine ⟨⟨vs, v, hs, hv⟩, fun x H3 y => ?_⟩
  obtain ⟨T, x', rfl, hT, rfl, y⟩ := y
  have ex : v = x' := Option.some.inj (hv.symm.trans (y vs hs))
  subst ex
  have hT2 : B2 T = none := b2.free hT
  refine ⟨upd B2 T (.tup [.int (i : Nat), v]), .newB b2 hT, ?_⟩
  have ei : (0 : Int) + (i : Nat) = (i : Nat) := by omega
  rw [ei]
  exact .tup upd_same (.cons (.int _) (.cons (dp_same (b1.trans (same_upd hT2)) _ _ hx) .nil))
def fEnum (f : FA) : FI := fun s => (f s).bind fun rs s1 => match rs with
  | [.imm (.list ds)] => .ok (enumD 0 ds) s1
  | [.imm (.tuple ds)] => .ok (enumD 0 ds) s1
  | _ => .no
theorem di_enum {X : Cx} {p : Pr} {W : WX} {fa : FA} {e : Expr} {pp pos tpos : Pos} {elts : List Expr} {kk : Nat} (hg : Gl X "enumerate") (hm : X.mg "enumerate" = none) (ha : PA X [e] (tA p W fa)) (eK : p.K = X.K := by rfl) (hs : starEach [e] X.env = [(false, eval e X.env)] := by rfl) :
    PI X (.Tuple elts kk tpos) (.Call (.Name "enumerate" pp) [e] [] pos) (tI p W (fEnum fa)) := PI.imp (PI.or (pi_enum hg hm ha hs) (pi_enumT hg hm ha hs)) fun σ H Q h => by
  obtain ⟨B, s, ok, q⟩ := h
  unfold fEnum at q
  cases ef : fa s with
  | no =>
    rw [ef] at q
    exact q.elim
  | ex e' s' => exact .inl ⟨B, s, ok, by rw [ef] at q ⊢; exact q⟩
  | ok r1 s1 =>
    rw [ef] at q
    simp only [R.bind] at q
    split at q
    · rename_i ds
      refine .inl ⟨B, s, ok, ?_⟩
      rw [ef]
      intro B1 H1 x1 ok1 vs hv
      cases hv with
      | cons h t =>
        cases t
        cases h with
        | lst hs' hd => exact ⟨_, _, rfl, by rw [← eK]; exact sqL_same ok1.bh hs', q B1 H1 x1 ok1 _ (by rw [← eK]; exact itd_enumL hs' hd)⟩
    · rename_i ds
      refine .inr ⟨B, s, ok, ?_⟩
      rw [ef]
      intro B1 H1 x1 ok1 vs hv
      cases hv with
      | cons h t =>
        cases t
        cases h with
        | tup hs' hd => exact ⟨_, _, rfl, by rw [← eK]; exact sqT_same ok1.bh (SqT.of hs'), q B1 H1 x1 ok1 _ (by rw [← eK]; exact itd_enumT (SqT.of hs') hd)⟩
    · exact q.elim
end DL
end

set_option Elab.async false
set_option linter.all false
set_option maxRecDepth 100000
set_option maxHeartbeats 4000000
noncomputable section
namespace DL
open PySem PySem.Spec PyProof.Rows L2

/-! ### list(range(..)) -/
theorem dps_rgF {K : PySem.W.Frag} {B : Hp} : ∀ (n : Nat) (lo : Int), DpAll K B ((List.range n).map fun i => V.int (lo + (i : Nat))) (rgFrom lo n)
  | 0, _ => .nil
  | n + 1, lo => by
    rw [List.range_succ_eq_map, List.map_cons, List.map_map]
    have e : (fun i : Nat => V.int (lo + (i : Nat))) ∘ Nat.succ = fun i : Nat => V.int (lo + 1 + (i : Nat)) := by
      funext i
      show V.int (lo + ((i + 1 : Nat) : Int)) = V.int (lo + 1 + (i : Nat))
      congr 1
      omega
    rw [e]
    have e0 : lo + ((0 : Nat) : Int) = lo := by omega
    rw [e0]
    exact .cons (.int lo) (dps_rgF n (lo + 1))
def okRg (a b : Int) : Bool := bnd62 a && bnd62 b && decide ((b - a).toNat ≤ mx)
theorem okRg_ok {a b : Int} (h : okRg a b = true) : RgOk a b := by
  unfold okRg at h
  rw [Bool.and_eq_true, Bool.and_eq_true, decide_eq_true_eq] at h
  obtain ⟨h1, h2⟩ := bnd62_ok h.1.1
  obtain ⟨h3, h4⟩ := bnd62_ok h.1.2
  exact ⟨h1, h2, h3, h4, Nat.le_trans h.2 (by decide)⟩
def fLRg1 (f : FE) : FE := fun s => (f s).bind fun r s1 => match r with
  | .imm (.int b) => if okRg 0 b then .ok (.tmp (rgFrom 0 (b - 0).toNat)) s1 else .no
  | _ => .no
def fLRg2 (f g : FE) : FE := fun s => (f s).bind fun r s1 => (g s1).bind fun r2 s2 => match r, r2 with
  | .imm (.int a), .imm (.int b) => if okRg a b then .ok (.tmp (rgFrom a (b - a).toNat)) s2 else .no
  | _, _ => .no
section
variable {X : Cx} {p : Pr} {W : WX} {f g : FE} {a b : Expr} {pos p1 p2 pos2 : Pos}
theorem de_lrg1 (hc : X.calm = true) (hg : Gl X "list") (hm : X.mg "list" = none) (hg2 : Gl X "range") (hm2 : X.mg "range" = none) (ha : PE X a (tE p W f)) (h1 : starEach [a] X.env = (false, eval a X.env) :: starEach [] X.env := by rfl)
    (h2 : starEach [Expr.Call (.Name "range" p2) [a] [] pos2] X.env = (false, eval (Expr.Call (.Name "range" p2) [a] [] pos2) X.env) :: starEach [] X.env := by rfl) :
    PE X (.Call (.Name "list" p1) [.Call (.Name "range" p2) [a] [] pos2] [] pos) (tE p W (fLRg1 f)) := PE.imp (pe_listRg hc hg hm (prg_1 hg2 hm2 ha h1) h2) fun σ H Q h => by
  obtain ⟨B, s, ok, q⟩ := h
  refine ⟨B, s, ok, run_mono (run_bind q) fun r s1 B1 H1 x1 ok1 k v hv => ?_⟩
  split at k
  · rename_i j
    by_cases hz : okRg 0 j = true
    · rw [if_pos hz] at k
      cases hv
      exact ⟨j, rfl, okRg_ok hz, fun q n => k B1 _ (.newH n) (ok1.newH n mutb_lst) _ ⟨q, _, rfl, x1.dom _ n, upd_same, ok1.bh.free n, dps_rgF _ _, ok1.notOwn n⟩⟩
    · rw [if_neg hz] at k
      exact k.elim
  · exact k.elim
theorem de_lrg2 (hc : X.calm = true) (hg : Gl X "list") (hm : X.mg "list" = none) (hg2 : Gl X "range") (hm2 : X.mg "range" = none) (ha : PE X a (tE p W f)) (hb : PE X b (tE p W g)) (h1 : starEach [a, b] X.env = (false, eval a X.env) :: starEach [b] X.env := by rfl)
    (h3 : starEach [b] X.env = (false, eval b X.env) :: starEach [] X.env := by rfl) (h4 : (backTo pos2 (starEach [b] X.env)).any (·.1) = false := by rfl)
    (h2 : starEach [Expr.Call (.Name "range" p2) [a, b] [] pos2] X.env = (false, eval (Expr.Call (.Name "range" p2) [a, b] [] pos2) X.env) :: starEach [] X.env := by rfl) :
    PE X (.Call (.Name "list" p1) [.Call (.Name "range" p2) [a, b] [] pos2] [] pos) (tE p W (fLRg2 f g)) := PE.imp (pe_listRg hc hg hm (prg_2 hg2 hm2 ha hb h1 h3 h4) h2) fun σ H Q h => by
  obtain ⟨B, s, ok, q⟩ := h
  refine ⟨B, s, ok, run_mono (run_bind q) fun r s1 B1 H1 x1 ok1 k v hv => ⟨B1, s1, ok1, run_mono (run_bind k) fun r2 s2 B2 H2 x2 ok2 k2 u hu => ?_⟩⟩
  split at k2
  · rename_i i j
    by_cases hz : okRg i j = true
    · rw [if_pos hz] at k2
      cases hv
      cases hu
      exact ⟨i, j, rfl, rfl, okRg_ok hz, fun q n => k2 B2 _ (.newH n) (ok2.newH n mutb_lst) _ ⟨q, _, rfl, x1.dom _ (x2.dom _ n), upd_same, ok2.bh.free n, dps_rgF _ _, ok2.notOwn n⟩⟩
    · rw [if_neg hz] at k2
      exact k2.elim
  · exact k2.elim
end
end DL
end

set_option Elab.async false
set_option linter.all false
set_option maxRecDepth 100000
set_option maxHeartbeats 4000000
noncomputable section
namespace DL
open PySem PySem.Spec PyProof.Rows L2

/-! ### __init__(self, x): self.f = x -/
section
variable {P : Program} {w : World} {K : PySem.W.Frag} {mg : Str → Option Value} {base : Heap}
theorem fn_init1 {x qual fl : Str} {st : Stmt} {f C : Addr} {fd : FuncData} {N ps : List Str} {k : Nat} (F : Fun K x qual st f fd) (S : FnScope N ps (defScope st)) (hN : N.length = 2) (hp : ps.length = 2) (T : OexC K C) (hno : PySem.W.findIn K (.ref C) fl = some none)
    (hb : ∀ (cdv : Value) (A : Around) (outer : List Env) (s : Shared) (H : Hp) (E : XK), PSs (cxOf (L2.CX P w) P w K mg base N qual (defScope st) f cdv A outer s H E) (defBody st) (tOst K fl (tVar 0) (tVar 1))) :
    FnOk P w K mg base (L2.CX P w) (k + 1) f fd ps (spI1 C fl) := by
  refine F.okX S (fun vs H Q E h => ?_) (fun cdv A outer s H vs Q E hr h => ?_)
  · obtain ⟨a, y, rfl, _⟩ := h
    rw [hp]
    rfl
  · obtain ⟨a, y, rfl, ha, q⟩ := h
    refine ⟨_, hb cdv A outer s H E, y, ?_, .ref a, ?_, a, C, rfl, T, hno, .inl ⟨ha, fun dx n ne => ?_⟩⟩
    · unfold L2.start
      rfl
    · unfold L2.start
      rfl
    · exact q dx n ne
end
end DL
end

set_option Elab.async false
set_option linter.all false
set_option maxRecDepth 100000
set_option maxHeartbeats 4000000
noncomputable section
namespace DL
open PySem PySem.Spec PyProof.Rows L2

/-! ### itertools.permutations: what the tables say of it -/
namespace Pm
abbrev T : String := "itertools.permutations"
theorem slot_init : Slot "itertools.permutations" "__init__" "object.__init__" :=
  .of (owner := "object") (n := "__init__") (by rw [typeLookup_type, builtinLookup_eq_fast]; kernel_rfl) (by decide +kernel) (by decide +kernel) (by decide +kernel) (by first | exact .inl (by decide +kernel) | exact .inr (by decide +kernel)) (by rw [isSubtype_type]; kernel_rfl)
theorem slot_iter : Slot "itertools.permutations" "__iter__" "itertools.permutations.__iter__" :=
  .of (owner := "itertools.permutations") (n := "__iter__") (by rw [typeLookup_type, builtinLookup_eq_fast]; kernel_rfl) (by decide +kernel) (by decide +kernel) (by decide +kernel) (by first | exact .inl (by decide +kernel) | exact .inr (by decide +kernel)) (by rw [isSubtype_type]; kernel_rfl)
theorem slot_next : Slot "itertools.permutations" "__next__" "itertools.permutations.__next__" :=
  .of (owner := "itertools.permutations") (n := "__next__") (by rw [typeLookup_type, builtinLookup_eq_fast]; kernel_rfl) (by decide +kernel) (by decide +kernel) (by decide +kernel) (by first | exact .inl (by decide +kernel) | exact .inr (by decide +kernel)) (by rw [isSubtype_type]; kernel_rfl)
theorem entry_next : entryFor table "itertools.permutations.__next__" = some Builtin.«itertools.permutations.__next__» := entryFor_of_tree (by kernel_rfl)
theorem entry_new : entryFor table "itertools.permutations.__new__" = some Builtin.«itertools.permutations.__new__» := entryFor_of_tree (by kernel_rfl)
theorem entry_iter : entryFor table "itertools.permutations.__iter__" = some Builtin.«dict_keyiterator.__iter__» :=
  entryFor_alias (id' := "dict_keyiterator.__iter__") (by kernel_rfl) (by first | rfl | decide +kernel | (unfold String.splitOn; simp +decide [String.splitOnAux])) (by decide +kernel) (by kernel_rfl)
theorem mro : mroOf (.type "itertools.permutations") = pure [.type "itertools.permutations", .type "object"] := by rw [mroOf_type]; kernel_rfl
theorem lookup_new : typeLookup (.type "itertools.permutations") "__new__" = pure (some (.builtin "itertools.permutations.__new__")) := by rw [typeLookup_type, builtinLookup_eq_fast]; kernel_rfl
theorem called : TypeCalled "itertools.permutations" "itertools.permutations.__new__" "object.__init__" :=
  ⟨by decide +kernel, by decide +kernel, ⟨_, _, mro⟩, madeBy_type mro lookup_new (by decide +kernel), by decide +kernel, by rw [isSubtype_type]; kernel_rfl, slot_init⟩
theorem typeCall (a : Value) : checkTypeCall "itertools.permutations" ⟨[a], []⟩ = pure () := by kernel_rfl
theorem newCall (a : Value) : checkBuiltinCall "itertools.permutations.__new__" ⟨[.type "itertools.permutations", a], []⟩ = pure () := by kernel_rfl
theorem owner : "itertools.permutations".toList.reverse = ['s', 'n', 'o', 'i', 't', 'a', 't', 'u', 'm', 'r', 'e', 'p', '.', 's', 'l', 'o', 'o', 't', 'r', 'e', 't', 'i'] := by decide +kernel
end Pm
end DL
end

set_option Elab.async false
set_option linter.all false
set_option maxRecDepth 100000
set_option maxHeartbeats 4000000
noncomputable section
namespace DL
open PySem PySem.Spec PyProof.Rows L2
namespace Pm
theorem own : Manifest.owners.lookup (String.ofList ['s', 'n', 'o', 'i', 't', 'a', 't', 'u', 'm', 'r', 'e', 'p', '.', 's', 'l', 'o', 'o', 't', 'r', 'e', 't', 'i'].reverse) = some Manifest.sig_itertools_permutations := by kernel_rfl
theorem args_next (a : Value) : argsOk "itertools.permutations.__next__" ⟨[a], []⟩ := by
  unfold argsOk; rw [signature?_of (id := "itertools.permutations.__next__") (n := ['_', '_', 't', 'x', 'e', 'n', '_', '_']) (o := ['s', 'n', 'o', 'i', 't', 'a', 't', 'u', 'm', 'r', 'e', 'p', '.', 's', 'l', 'o', 'o', 't', 'r', 'e', 't', 'i']) (by kernel_rfl) own]; kernel_rfl
theorem args_iter (a : Value) : argsOk "itertools.permutations.__iter__" ⟨[a], []⟩ := by
  unfold argsOk; rw [signature?_of (id := "itertools.permutations.__iter__") (n := ['_', '_', 'r', 'e', 't', 'i', '_', '_']) (o := ['s', 'n', 'o', 'i', 't', 'a', 't', 'u', 'm', 'r', 'e', 'p', '.', 's', 'l', 'o', 'o', 't', 'r', 'e', 't', 'i']) (by kernel_rfl) own]; kernel_rfl
theorem bindNamed (v : Value) : Builtin.Itertools.itBindNamed "permutations" ["iterable", "r"] 1 2 [v] [] = pure [some v, none] := by kernel_rfl
theorem classRest (v : Value) : Builtin.Itertools.itClassAndRest "permutations" ⟨[.type "itertools.permutations", v], []⟩ = pure (.type "itertools.permutations", [v]) := by
  unfold Builtin.Itertools.itClassAndRest
  have h1 : ("itertools." ++ "permutations" : String) = "itertools.permutations" := by decide +kernel
  have h2 := called.sub
  simp only [h1, isType, pure_bind, h2, Bool.not_true, Bool.false_eq_true, if_false]
theorem plain_new : plainId "itertools.permutations.__new__" = true := by decide +kernel
theorem plain_next : plainId "itertools.permutations.__next__" = true := by decide +kernel
theorem noDict : typeHasDict (.type "itertools.permutations") = false := by decide +kernel
/-- the iterator's object -/
abbrev ob (t : Addr) (st : Int) (n : Nat) (last : Value) (nums : List Nat) : Obj := { cls := .type "itertools.permutations", data := .fields ([.ref t, rawInt st, rawInt n, last] ++ nums.map fun (i : Nat) => rawInt i).toArray }
section
variable {prog : Program} {w : World} {A : Around} {E : Value → Shared → Prop} {s : Shared} {r : Addr} {b : Int} {t u v : Tok} {n : Nat}
theorem code_new {Q₁ : Value → Shared → Prop} (hh : A.handled = none) (hr : IsRange s.heap r 0 b 1 t u v) (hsmall : Builtin.Range.small 0 b 1 = true) (hn : Builtin.Range.rangeSize 0 b 1 = n) (hlen : n ≤ 1000)
    (h : ∀ (h' : Heap) (tk : Nat) (acc : Array Value), (∀ b o, s.heap.get? b = some o → h'.get? b = some o) → ItemsOf (fun i v => ∃ t, v = .int (0 + i * 1) t) acc n →
      Q₁ (.ref (h'.objs.size + 1)) { s with heap := (h'.push { cls := .type "tuple", data := .seq acc }).push (ob h'.objs.size 0 n .none (List.range n ++ (List.range n).map fun i => n - i)), toks := tk }) :
    codeAny (model prog w) A (.call (.builtin "itertools.permutations.__new__") ⟨[.type "itertools.permutations", .ref r], []⟩) (wants Q₁ E) s := by
  refine codeAny_of_tree ?_
  show wpAny _ A.in1 (do checkBuiltinCall "itertools.permutations.__new__" ⟨[.type "itertools.permutations", .ref r], []⟩; again (.builtin "itertools.permutations.__new__" ⟨[.type "itertools.permutations", .ref r], []⟩)) _ _ s
  refine wpAny_bind (wpAny_of_eq (newCall _) (wpAny_pure ⟨plainId_quiet plain_new _, codeAny_builtin entry_new ?_⟩))
  rw [Around.under_plainId plain_new _]
  unfold Builtin.«itertools.permutations.__new__»
  refine wpAny_bind (wpAny_of_eq (classRest _) (wpAny_bind (wpAny_of_eq (bindNamed _) ?_)))
  refine wpAny_bind (collect_range (A := A.in1) hh hr hsmall hn (by omega) fun h' tk acc hk hacc => ?_)
  have hl : acc.toList.length = n := (Array.length_toList).trans hacc.1
  dsimp only [Option.getD]
  rw [hl]
  refine wpAny_bind (wpAny_pure ?_)
  have n0 : ¬ ((n : Int) < 0) := by omega
  have n1 : ¬ (Builtin.Itertools.itTooMany (n : Int) = true) := by
    unfold Builtin.Itertools.itTooMany
    rw [decide_eq_true_eq]
    omega
  rw [if_neg n0, if_neg n1]
  refine wpAny_bind (wpAny_newTuple ?_ (by rw [hl]; exact Nat.le_trans hlen (by rw [sizeLine_eq]; decide)))
  have n2 : (n : Int).toNat = n := by omega
  have n3 : ¬ (n > n) := by omega
  rw [n2, if_neg n3]
  unfold Builtin.Itertools.itNewRecord
  rw [noDict, if_pos (by rfl)]
  have hf : ∀ x : Value, ([x, rawInt 0, rawInt n, Value.none] ++ (List.range n).map (fun (i : Nat) => rawInt i) ++ (List.range n).map fun (i : Nat) => rawInt ((n : Int) - i)) = [x, rawInt 0, rawInt n, Value.none] ++ (List.range n ++ (List.range n).map fun i => n - i).map fun (i : Nat) => rawInt i := fun x => by
    rw [List.append_assoc, List.map_append, List.map_map]
    congr 2
    refine List.map_congr_left fun i hi => ?_
    have hi := List.mem_range.mp hi
    show rawInt _ = rawInt _
    congr 1
    show (n : Int) - (i : Nat) = ((n - i : Nat) : Int)
    omega
  rw [hf]
  refine wpAny_bind (wpAny_newObj_type (wpAny_pure ?_) ?_)
  · have q := h h' tk acc hk hacc
    have e1 : acc.toList.toArray = acc := by simp
    have e2 : (h'.push { cls := .type "tuple", data := .seq acc }).objs.size = h'.objs.size + 1 := Heap.size_push ..
    rw [e1]
    show wants Q₁ E _ _
    show Q₁ _ _
    dsimp only
    rw [e2]
    exact q
  · show (_ : List Value).toArray.size ≤ sizeLine + 2
    rw [List.size_toArray, List.length_append, List.length_map, List.length_append, List.length_map, List.length_range, sizeLine_eq]
    show 4 + (n + n) ≤ _
    omega
theorem call_new {Q : Value → Shared → Prop} (hh : A.handled = none) (hr : IsRange s.heap r 0 b 1 t u v) (hsmall : Builtin.Range.small 0 b 1 = true) (hn : Builtin.Range.rangeSize 0 b 1 = n) (hlen : n ≤ 1000)
    (h : ∀ (h' : Heap) (tk : Nat) (acc : Array Value), (∀ b o, s.heap.get? b = some o → h'.get? b = some o) → ItemsOf (fun i v => ∃ t, v = .int (0 + i * 1) t) acc n →
      Q (.ref (h'.objs.size + 1)) { s with heap := (h'.push { cls := .type "tuple", data := .seq acc }).push (ob h'.objs.size 0 n .none (List.range n ++ (List.range n).map fun i => n - i)), toks := tk }) :
    wpAny (model prog w) A (call (.type "itertools.permutations") [.ref r]) Q E s := by
  refine callType_codes (Q₁ := fun obj s₁ => s₁.TypeIs obj "itertools.permutations" ∧ Q obj s₁) called (typeCall _) F.entry_object_init
    (code_new (A := A.in1) hh hr hsmall hn hlen fun h' tk acc hk hacc => ⟨⟨ob h'.objs.size 0 n .none (List.range n ++ (List.range n).map fun i => n - i), ?_, rfl⟩, h h' tk acc hk hacc⟩) fun obj s₁ h₁ => ?_
  · have e2 : (h'.push { cls := .type "tuple", data := .seq acc }).objs.size = h'.objs.size + 1 := Heap.size_push ..
    rw [← e2]
    exact Heap.get?_push_size _ rfl
  · exact ⟨h₁.1, F.args_object_init_2 obj _, object_init_meets called.init.lookup called.made (by decide) prog w A.in1 _ s₁ ⟨h₁.1, rfl, h₁.2⟩⟩
/-- the next indices and cycles, None at the end -/
def np (n : Nat) : Nat → List Nat → List Nat → Option (List Nat × List Nat)
  | 0, _, _ => none
  | i + 1, ix, cy => if (cy.getD i 0 - 1 == 0) = true then np n i (ix.take i ++ ix.drop (i + 1) ++ [ix.getD i 0]) (cy.set i (n - i)) else some ((ix.set i (ix.getD (n - (cy.getD i 0 - 1)) 0)).set (n - (cy.getD i 0 - 1)) (ix.getD i 0), cy.set i (cy.getD i 0 - 1))
/-- whatever does the same steps is np -/
theorem np_of {f : Nat → Nat → List Nat → List Nat → Option (List Nat × List Nat)} {n i : Nat} {ix cy : List Nat} {res : Option (List Nat × List Nat)} (e : f n i ix cy = res) (h0 : ∀ n ix cy, f n 0 ix cy = none)
    (h1 : ∀ n i ix cy, f n (i + 1) ix cy = if (cy.getD i 0 - 1 == 0) = true then f n i (ix.take i ++ ix.drop (i + 1) ++ [ix.getD i 0]) (cy.set i (n - i)) else some ((ix.set i (ix.getD (n - (cy.getD i 0 - 1)) 0)).set (n - (cy.getD i 0 - 1)) (ix.getD i 0), cy.set i (cy.getD i 0 - 1))) :
    np n i ix cy = res := by
  rw [← e]
  clear e
  induction i generalizing ix cy with
  | zero => rw [h0] <;> rfl
  | succ i ih =>
    rw [h1]
    unfold np
    split
    · exact ih
    · rfl
theorem iter_ok {it tt : Addr} {st : Int} {last : Value} {nums : List Nat} {Q : Value → Shared → Prop} (ho : s.heap.get? it = some (ob tt st n last nums)) (h : Q (.ref it) s) : wpAny (model prog w) A (pyIter (.ref it)) Q E s := by
  have hT : s.TypeIs (.ref it) "itertools.permutations" := ⟨_, ho, rfl⟩
  refine wpAny_pyIter_slot hT slot_iter (wpAny_call_entry slot_iter hT entry_iter ?_ (args_iter _))
  show wpAny _ _ (ret (.ref it)) _ _ s
  exact wpAny_pure ⟨_, rfl, "itertools.permutations", _, hT, slot_next.lookup, h⟩
theorem nums_from {M : Model} {it tt : Addr} {st : Int} {last : Value} {nums : List Nat} {Q : List Nat → Shared → Prop} (ho : s.heap.get? it = some (ob tt st n last nums)) (h : Q nums s) : wpAny M A (Builtin.Itertools.itNumbersFrom (.ref it) 4) Q E s := by
  unfold Builtin.Itertools.itNumbersFrom
  refine wpAny_bind (wpAny_load ho ?_)
  have e : (((([Value.ref tt, rawInt st, rawInt n, last] ++ nums.map fun (i : Nat) => rawInt i).toArray).toList.drop 4).map fun x => match x with | .int n _ => n.toNat | _ => 0) = nums := by
    show ((nums.map fun (i : Nat) => rawInt i).map _) = nums
    rw [List.map_map]
    exact (List.map_congr_left fun i _ => by show (rawInt (i : Int) |> fun x => match x with | .int n _ => n.toNat | _ => 0) = i; show (i : Int).toNat = i; omega).trans (List.map_id _)
  show wpAny M A (pure (((([Value.ref tt, rawInt st, rawInt n, last] ++ nums.map fun (i : Nat) => rawInt i).toArray).toList.drop 4).map fun x => match x with | .int n _ => n.toNat | _ => 0)) Q E s
  rw [e]
  exact wpAny_pure h
theorem int_field {it tt : Addr} {st : Int} {last : Value} {nums : List Nat} {Q : Int → Shared → Prop} {k : Nat} {i : Int} (ho : s.heap.get? it = some (ob tt st n last nums)) (hk : (([Value.ref tt, rawInt st, rawInt n, last] ++ nums.map fun (i : Nat) => rawInt i).toArray)[k]? = some (rawInt i)) (h : Q i s) :
    wpAny (model prog w) A (Builtin.Itertools.itIntField (.ref it) k) Q E s := by
  unfold Builtin.Itertools.itIntField
  exact wpAny_bind (wpAny_field ho rfl (x := rawInt i) hk (wpAny_pure h))
/-- the tuple of the items at the indices -/
abbrev pick (xs : Array Value) (ix : List Nat) : List Value := ix.map fun i => xs.getD i .none
theorem set_nums {it tt : Addr} {st : Int} {last : Value} {nums ms : List Nat} {Q : Unit → Shared → Prop} (ho : s.heap.get? it = some (ob tt st n last nums)) (hm : (ms.length ≤ 5000))
    (h : ∀ h', h'.get? it = some (ob tt st n last ms) → Heap.SameBut it s.heap h' → Q () { s with heap := h' }) : wpAny (model prog w) A (Builtin.Itertools.itSetNumbersFrom (.ref it) 4 ms) Q E s := by
  unfold Builtin.Itertools.itSetNumbersFrom
  have e : (([Value.ref tt, rawInt st, rawInt n, last] ++ nums.map fun (i : Nat) => rawInt i).toArray.extract 0 4 ++ (ms.map fun (i : Nat) => rawInt i).toArray) = ([Value.ref tt, rawInt st, rawInt n, last] ++ ms.map fun (i : Nat) => rawInt i).toArray := by
    simp
  refine wpAny_updateFields ho rfl (h _ ?_ (Heap.SameBut.update ..)) ?_
  · rw [Heap.get?_update_self _ ho rfl]
    show some ({ cls := _, data := .fields (([Value.ref tt, rawInt st, rawInt n, last] ++ nums.map fun (i : Nat) => rawInt i).toArray.extract 0 4 ++ (ms.map fun (i : Nat) => rawInt i).toArray) } : Obj) = _
    rw [e]
  · rw [e, List.size_toArray, List.length_append, List.length_map, sizeLine_eq]
    show 4 + _ ≤ _
    omega
/-- a new tuple handed out -/
theorem hand_out {it tt : Addr} {st : Int} {last : Value} {nums : List Nat} {L : List Value} {Q : PySem.Fin → Shared → Prop} (ho : s.heap.get? it = some (ob tt st n last nums)) (hL : L.length ≤ sizeLine)
    (h : ∀ h' : Heap, h'.get? it = some (ob tt st n (.ref s.heap.objs.size) nums) → h'.get? s.heap.objs.size = some { cls := .type "tuple", data := .seq L.toArray } → (∀ b o, b ≠ it → s.heap.get? b = some o → h'.get? b = some o) → Q (.done (.ret (.ref s.heap.objs.size))) { s with heap := h' }) :
    wpAny (model prog w) A (do
      let t ← newTuple L
      let before ← field (.ref it) 3
      setField (.ref it) 3 t
      letGo [before] [t]
      ret t) Q E s := by
  have lt : it < s.heap.objs.size := Heap.lt_size ho
  have h1 : (s.heap.push { cls := .type "tuple", data := .seq L.toArray }).get? it = some (ob tt st n last nums) := Heap.get?_push_of_some _ ho
  have h2 : (s.heap.push { cls := .type "tuple", data := .seq L.toArray }).get? s.heap.objs.size = some { cls := .type "tuple", data := .seq L.toArray } := Heap.get?_push_size _ rfl
  refine wpAny_bind (wpAny_newTuple ?_ hL)
  refine wpAny_bind (wpAny_field h1 rfl (x := last) rfl ?_)
  refine wpAny_bind (wpAny_setField_rec h1 (by simp) fun h' k1 k2 => ?_)
  refine wpAny_bind (wpAny_letGo (wpAny_pure (h h' ?_ ?_ ?_)))
  · rw [k1]
    rfl
  · exact (k2.2 _ (Nat.ne_of_gt lt)).trans h2
  · exact fun b o hb e => (k2.2 b hb).trans (Heap.get?_push_of_some _ e)
theorem pick_len {xs : Array Value} {ix : List Nat} : (pick xs ix).length = ix.length := List.length_map _
theorem next_first {it tt : Addr} {last : Value} {nums : List Nat} {xs : Array Value} {Q : Option Value → Shared → Prop} (ho : s.heap.get? it = some (ob tt 0 n last nums)) (ht : s.heap.IsTuple tt xs) (hx : xs.size = n) (hn : n ≤ 1000)
    (h : ∀ h' : Heap, h'.get? it = some (ob tt 1 n (.ref s.heap.objs.size) nums) → h'.get? s.heap.objs.size = some { cls := .type "tuple", data := .seq (pick xs (nums.take n)).toArray } → (∀ b o, b ≠ it → s.heap.get? b = some o → h'.get? b = some o) →
      Q (some (.ref s.heap.objs.size)) { s with heap := h' }) : wpAny (model prog w) A (pyNext (.ref it)) Q E s := by
  have hT : s.TypeIs (.ref it) "itertools.permutations" := ⟨_, ho, rfl⟩
  obtain ⟨ot, hot, hct, nt, hdt⟩ := ht
  unfold pyNext
  refine wpAny_bind (wpAny_attempt (wpAny_callSpecial?_slot (name := Str.ofString "__next__") hT slot_next (wpAny_call_entry slot_next hT entry_next ?_ (args_next _))))
  show wpAny _ _ (field (.ref it) 0 >>= _) _ _ _
  refine wpAny_bind (wpAny_field ho rfl (x := .ref tt) rfl ?_)
  refine wpAny_bind (wpAny_bind (wpAny_seqItems hot hdt (wpAny_pure ?_)))
  show wpAny _ _ (Builtin.Itertools.itIntField (.ref it) 2 >>= _) _ _ _
  refine wpAny_bind (int_field ho rfl ?_)
  refine wpAny_bind (nums_from ho ?_)
  refine wpAny_bind (int_field ho rfl ?_)
  dsimp only
  have n2 : (n : Int).toNat = n := by omega
  rw [n2]
  refine wpAny_bind (wpAny_setField_rec ho (by simp) fun h1 k1 k2 => ?_)
  have k1 : h1.get? it = some (ob tt 1 n last nums) := k1
  have sz : h1.objs.size = s.heap.objs.size := k2.1
  refine hand_out (s := { s with heap := h1 }) k1 (by rw [pick_len, List.length_take, sizeLine_eq]; omega) fun h' g1 g2 g3 => ⟨_, rfl, wpAny_pure ?_⟩
  dsimp only at g1 g2
  rw [sz] at g1 g2 ⊢
  exact h h' g1 g2 fun b o hb e => g3 b o hb ((k2.2 b hb).trans e)
theorem next_more {it tt : Addr} {last : Value} {nums ix cy : List Nat} {xs : Array Value} {Q : Option Value → Shared → Prop} (ho : s.heap.get? it = some (ob tt 1 n last nums)) (ht : s.heap.IsTuple tt xs) (hx : xs.size = n) (hn : n ≤ 1000) (hnp : np n n (nums.take n) (nums.drop n) = some (ix, cy))
    (hl : (ix ++ cy).length ≤ 5000)
    (h : ∀ h' : Heap, h'.get? it = some (ob tt 1 n (.ref s.heap.objs.size) (ix ++ cy)) → h'.get? s.heap.objs.size = some { cls := .type "tuple", data := .seq (pick xs (ix.take n)).toArray } → (∀ b o, b ≠ it → s.heap.get? b = some o → h'.get? b = some o) →
      Q (some (.ref s.heap.objs.size)) { s with heap := h' }) : wpAny (model prog w) A (pyNext (.ref it)) Q E s := by
  have hT : s.TypeIs (.ref it) "itertools.permutations" := ⟨_, ho, rfl⟩
  obtain ⟨ot, hot, hct, nt, hdt⟩ := ht
  unfold pyNext
  refine wpAny_bind (wpAny_attempt (wpAny_callSpecial?_slot (name := Str.ofString "__next__") hT slot_next (wpAny_call_entry slot_next hT entry_next ?_ (args_next _))))
  show wpAny _ _ (field (.ref it) 0 >>= _) _ _ _
  refine wpAny_bind (wpAny_field ho rfl (x := .ref tt) rfl ?_)
  refine wpAny_bind (wpAny_bind (wpAny_seqItems hot hdt (wpAny_pure ?_)))
  show wpAny _ _ (Builtin.Itertools.itIntField (.ref it) 2 >>= _) _ _ _
  refine wpAny_bind (int_field ho rfl ?_)
  refine wpAny_bind (nums_from ho ?_)
  refine wpAny_bind (int_field ho rfl ?_)
  dsimp only
  have n2 : (n : Int).toNat = n := by omega
  rw [n2, hx]
  split
  · rename_i hz
    exact absurd hz (by decide)
  · split
    · rename_i ix' cy' heq
      have e := np_of heq (fun _ _ _ => rfl) (fun _ _ _ _ => rfl)
      rw [hnp] at e
      cases e
      refine wpAny_bind (set_nums ho hl fun h1 k1 k2 => ?_)
      have sz : h1.objs.size = s.heap.objs.size := k2.1
      refine hand_out (s := { s with heap := h1 }) k1 (by rw [pick_len, List.length_take, sizeLine_eq]; omega) fun h' g1 g2 g3 => ⟨_, rfl, wpAny_pure ?_⟩
      dsimp only at g1 g2
      rw [sz] at g1 g2 ⊢
      exact h h' g1 g2 fun b o hb e => g3 b o hb ((k2.2 b hb).trans e)
    · rename_i heq
      have e := np_of heq (fun _ _ _ => rfl) (fun _ _ _ _ => rfl)
      rw [hnp] at e
      cases e
  · rename_i z1 z2
    exact absurd rfl z2
theorem next_end {it tt : Addr} {last : Value} {nums : List Nat} {xs : Array Value} {Q : Option Value → Shared → Prop} (hh : A.handled = none) (ho : s.heap.get? it = some (ob tt 1 n last nums)) (ht : s.heap.IsTuple tt xs) (hx : xs.size = n) (hnp : np n n (nums.take n) (nums.drop n) = none)
    (h : ∀ h' : Heap, (∀ b o, b ≠ it → s.heap.get? b = some o → h'.get? b = some o) → Q none { s with heap := h' }) : wpAny (model prog w) A (pyNext (.ref it)) Q E s := by
  have hT : s.TypeIs (.ref it) "itertools.permutations" := ⟨_, ho, rfl⟩
  obtain ⟨ot, hot, hct, nt, hdt⟩ := ht
  unfold pyNext
  refine wpAny_bind (wpAny_attempt (wpAny_callSpecial?_slot (name := Str.ofString "__next__") hT slot_next (wpAny_call_entry slot_next hT entry_next ?_ (args_next _))))
  show wpAny _ _ (field (.ref it) 0 >>= _) _ _ _
  refine wpAny_bind (wpAny_field ho rfl (x := .ref tt) rfl ?_)
  refine wpAny_bind (wpAny_bind (wpAny_seqItems hot hdt (wpAny_pure ?_)))
  show wpAny _ _ (Builtin.Itertools.itIntField (.ref it) 2 >>= _) _ _ _
  refine wpAny_bind (int_field ho rfl ?_)
  refine wpAny_bind (nums_from ho ?_)
  refine wpAny_bind (int_field ho rfl ?_)
  dsimp only
  have n2 : (n : Int).toNat = n := by omega
  rw [n2, hx]
  split
  · rename_i hz
    exact absurd hz (by decide)
  · split
    · rename_i ix' cy' heq
      have e := np_of heq (fun _ _ _ => rfl) (fun _ _ _ _ => rfl)
      rw [hnp] at e
      cases e
    · refine wpAny_bind (wpAny_setField_rec ho (by simp) fun h1 k1 k2 => ?_)
      unfold Builtin.Itertools.itStop
      show wpAny _ _ (newExc (.type "StopIteration") [] >>= raiseNew) _ _ _
      refine wpAny_bind ?_
      simp only [newExc, newTuple]
      refine wpAny_bind (wpAny_newObj_type ?_ (by size_fits))
      refine wpAny_bind (m := firstArgMember _ _) (wpAny_of_eq (a := Value.none) (by first | rfl | (simp only [firstArgMember]; rfl)) ?_)
      refine wpAny_newObj_type ?_ (by size_fits)
      simp only [raiseNew]
      refine wpAny_bind (wpAny_handled ?_)
      first | rw [show A.in1.handled = none from hh] | rw [hh]
      refine wpAny_bind (wpAny_pure (wpAny_throw ?_))
      refine wpAny_bind (wpAny_isInstance (T := "StopIteration") (b := true) ⟨_, Heap.get?_push_size _ rfl, rfl⟩ isSubtype_stop ?_)
      exact wpAny_pure (h _ fun b o hb e => Heap.get?_push_of_some _ (Heap.get?_push_of_some _ ((k2.2 b hb).trans e)))
  · rename_i z1 z2
    exact absurd rfl z2
end
end Pm
end DL
end

set_option Elab.async false
set_option linter.all false
set_option maxRecDepth 100000
set_option maxHeartbeats 4000000
noncomputable section
namespace DL
open PySem PySem.Spec PyProof.Rows L2
namespace Pm

/-! ### the states of the iterator, one behind another -/
abbrev St2 := List Nat × List Nat
def sizes (n : Nat) (a : St2) : Bool := a.1.length == n && a.2.length == n
def later (n : Nat) : Nat → St2 → Option (List St2)
  | 0, _ => none
  | f + 1, a => match np n n a.1 a.2 with
    | none => some []
    | some b => if sizes n b then (later n f b).map (b :: ·) else none
def first (n : Nat) : St2 := (List.range n, (List.range n).map fun i => n - i)
def states (n : Nat) : Option (List St2) := (later n 1000000 (first n)).map (first n :: ·)
theorem first_sizes (n : Nat) : sizes n (first n) = true := by
  unfold sizes first
  simp
/-- a row of states -/
inductive Row (n : Nat) : St2 → List St2 → Prop
  | last {a : St2} (h : np n n a.1 a.2 = none) : Row n a []
  | more {a b : St2} {r : List St2} (h : np n n a.1 a.2 = some b) (s : sizes n b = true) (t : Row n b r) : Row n a (b :: r)
theorem later_row {n : Nat} : ∀ {f : Nat} {a : St2} {r : List St2}, later n f a = some r → Row n a r
  | 0, _, _, h => by cases h
  | f + 1, a, r, h => by
    unfold later at h
    split at h
    · rename_i e
      cases h
      exact .last e
    · rename_i b e
      by_cases hs : sizes n b = true
      · rw [if_pos hs] at h
        cases el : later n f b with
        | none =>
          rw [el] at h
          cases h
        | some r' =>
          rw [el] at h
          cases h
          exact .more e hs (later_row el)
      · rw [if_neg hs] at h
        cases h
theorem row_at {n : Nat} : ∀ {r : List St2} {a : St2} {i : Nat} {x : St2}, Row n a r → sizes n a = true → (a :: r)[i]? = some x → sizes n x = true ∧ np n n x.1 x.2 = (a :: r)[i + 1]?
  | [], a, 0, x, h, hs, e => by
    cases e
    cases h with
    | last h => exact ⟨hs, by rw [h]; rfl⟩
  | [], a, i + 1, x, h, hs, e => by simp at e
  | b :: r, a, 0, x, h, hs, e => by
    cases e
    cases h with
    | more h s t => exact ⟨hs, by rw [h]; rfl⟩
  | b :: r, a, i + 1, x, h, hs, e => by
    cases h with
    | more h s t => exact row_at (i := i) t s (by simpa using e)

/-! ### the walk -/
def vAt (n i : Nat) : V := if i < n then .int i else .non
def dAt (n i : Nat) : D := if i < n then .int i else .none
def Itp (n : Nat) (qs : List St2) : It :=
  ⟨fun i _ => i < qs.length, fun i H v H' => ∃ T a, qs[i]? = some a ∧ v = .ref T ∧ H T = none ∧ H' = upd H T (.tup (a.1.map (vAt n))), fun i _ => i = qs.length⟩
theorem vals_pick {n : Nat} {acc : Array Value} (h : ItemsOf (fun i v => ∃ t, v = .int (0 + i * 1) t) acc n) : ∀ ix : List Nat, Vals (ix.map (vAt n)) (pick acc ix)
  | [] => .nil
  | i :: ix => by
    refine .cons ?_ (vals_pick h ix)
    show RelV (vAt n i) (acc.getD i .none)
    unfold vAt
    by_cases hi : i < n
    · rw [if_pos hi]
      have hs : i < acc.size := by rw [h.1]; exact hi
      have e : acc[i]? = some acc[i] := Array.getElem?_eq_getElem hs
      obtain ⟨t, et⟩ := h.2 i _ e
      refine ⟨t, ?_⟩
      rw [Array.getD_eq_getD_getElem?, e]
      show acc[i] = _
      rw [et]
      congr 1
      omega
    · rw [if_neg hi]
      have e : acc[i]? = none := Array.getElem?_eq_none (by rw [h.1]; omega)
      rw [Array.getD_eq_getD_getElem?, e]
      rfl
theorem sizes_ok {n : Nat} {a : St2} (h : sizes n a = true) : a.1.length = n ∧ a.2.length = n := by
  unfold sizes at h
  rw [Bool.and_eq_true, beq_iff_eq, beq_iff_eq] at h
  exact h
def tn (n it tt : Nat) (acc : Array Value) (qs : List St2) (i : Nat) (h : Heap) : Prop :=
  h.get? tt = some { cls := .type "tuple", data := .seq acc } ∧ ∃ last, (i = 0 ∧ h.get? it = some (ob tt 0 n last ((first n).1 ++ (first n).2))) ∨ ∃ j a, i = j + 1 ∧ qs[j]? = some a ∧ h.get? it = some (ob tt 1 n last (a.1 ++ a.2))
theorem turn_perm {P : Program} {w : World} {K : PySem.W.Frag} {tg : Expr} {n : Nat} (it tt : Addr) (hne : it ≠ tt) {acc : Array Value} {r : List St2} (hn : n ≤ 1000) (ha : ItemsOf (fun i v => ∃ t, v = .int (0 + i * 1) t) acc n) (hr : Row n (first n) r) :
    Turn P w K tg (Itp n (first n :: r)) [it, tt] it (tn n it tt acc (first n :: r)) where
  mem := by simp
  obj := fun i h st b hb => by
    obtain ⟨h1, last, h2⟩ := st
    rcases List.mem_cons.mp hb with z | z
    · rw [z]
      rcases h2 with ⟨_, h2⟩ | ⟨j, a, _, _, h2⟩
      · exact ⟨_, h2, fun v q => by cases q⟩
      · exact ⟨_, h2, fun v q => by cases q⟩
    · rw [List.mem_singleton.mp z]
      exact ⟨_, h1, fun v q => by cases q⟩
  keep := fun i h h' st k => by
    obtain ⟨h1, last, h2⟩ := st
    refine ⟨k tt (by simp) _ h1, last, ?_⟩
    rcases h2 with ⟨e, h2⟩ | ⟨j, a, e1, e2, h2⟩
    · exact .inl ⟨e, k it (by simp) _ h2⟩
    · exact .inr ⟨j, a, e1, e2, k it (by simp) _ h2⟩
  item := by
    intro X hP hw hK hc i pins s σ H E I hf st hg
    subst hP hw hK
    obtain ⟨h1, last, h2⟩ := st
    have pt : s.heap.IsTuple tt acc := ⟨_, h1, rfl, 0, rfl⟩
    have fin : ∀ (b : St2) (h' : Heap), (first n :: r)[i]? = some b → h'.get? it = some (ob tt 1 n (.ref s.heap.objs.size) (b.1 ++ b.2)) → h'.get? s.heap.objs.size = some { cls := .type "tuple", data := .seq (pick acc b.1).toArray } → (∀ b o, b ≠ it → s.heap.get? b = some o → h'.get? b = some o) →
        ∃ u, some (Value.ref s.heap.objs.size) = some u ∧ wpAny (model X.prog X.w) X.A (letOwnedTupleGo tg (.ref it) u) (fun _ s2 => ∃ x H', Inv X pins σ H' s2 ∧ RelV x u ∧ (Itp n (first n :: r)).yld i H x H' ∧ tn n it tt acc (first n :: r) (i + 1) s2.heap ∧ ∀ b ∈ [it, tt], H' b = none) E { s with heap := h' } := fun b h' eb g1 g2 g3 => by
      refine ⟨_, rfl, go_of (s := { s with heap := h' }) g1 rfl rfl (by decide) ?_⟩
      obtain ⟨z1, z2⟩ := sizes_ok (row_at hr (first_sizes n) eb).1
      have new : ObjOk X.prog X.w (upd H s.heap.objs.size (.tup (b.1.map (vAt n)))) h' s.heap.objs.size (.tup (b.1.map (vAt n))) :=
        ⟨by rw [List.length_map, z1, sizeLine_eq]; omega, pick acc b.1, vals_pick ha b.1, ⟨_, g2, rfl, _, rfl⟩⟩
      have I1 : Inv X pins σ (upd H s.heap.objs.size (.tup (b.1.map (vAt n)))) { s with heap := h' } :=
        I.turnedNew (t' := s.toks) (ch := [it, tt]) (fun c o hc e => g3 c o (fun z => hc (by simp [z])) e) hf (Nat.le_refl _) new
      refine ⟨.ref s.heap.objs.size, _, I1, rfl, ⟨_, b, eb, rfl, I.hok.fresh (Nat.le_refl _), rfl⟩, ⟨g3 tt _ (Ne.symm hne) h1, _, .inr ⟨i, b, rfl, eb, g1⟩⟩, fun c hc => ?_⟩
      have hlt : c < s.heap.objs.size := by
        rcases List.mem_cons.mp hc with z | z
        · rw [z]
          rcases h2 with ⟨_, h2⟩ | ⟨j, a, _, _, h2⟩ <;> exact Heap.lt_size h2
        · rw [List.mem_singleton.mp z]
          exact Heap.lt_size h1
      rw [upd_ne (Nat.ne_of_lt hlt)]
      exact (hf c hc).1
    rcases h2 with ⟨e, h2⟩ | ⟨j, a, e1, e2, h2⟩
    · subst e
      refine next_first h2 pt ha.1 hn fun h' g1 g2 g3 => fin (first n) h' rfl g1 ?_ g3
      have et : ((first n).1 ++ (first n).2).take n = (first n).1 := by
        rw [List.take_append_of_le_length (by unfold first; simp), List.take_of_length_le (by unfold first; simp)]
      rw [et] at g2
      exact g2
    · subst e1
      obtain ⟨z, q⟩ := row_at hr (first_sizes n) e2
      obtain ⟨z1, z2⟩ := sizes_ok z
      have hg' : j + 1 < (first n :: r).length := hg
      have eb : (first n :: r)[j + 1]? = some (first n :: r)[j + 1] := List.getElem?_eq_getElem hg'
      rw [eb] at q
      obtain ⟨y1, y2⟩ := sizes_ok (row_at hr (first_sizes n) eb).1
      have et : (a.1 ++ a.2).take n = a.1 := by
        rw [← z1, List.take_left]
      have ed : (a.1 ++ a.2).drop n = a.2 := by
        rw [← z1, List.drop_left]
      generalize hb : (first n :: r)[j + 1] = b at eb q y1 y2
      refine next_more (ix := b.1) (cy := b.2) h2 pt ha.1 hn (by rw [et, ed, q]) (by rw [List.length_append]; omega) fun h' g1 g2 g3 => fin b h' eb g1 ?_ g3
      rw [List.take_of_length_le (Nat.le_of_eq y1)] at g2
      exact g2
  done := by
    intro X hP hw hK hc i pins s σ H E I hf st hg
    subst hP hw hK
    obtain ⟨h1, last, h2⟩ := st
    have pt : s.heap.IsTuple tt acc := ⟨_, h1, rfl, 0, rfl⟩
    obtain ⟨f0, f1, f2, f3, f4, f5⟩ := hf it (by simp)
    have hg' : i = (first n :: r).length := hg
    rcases h2 with ⟨e, h2⟩ | ⟨j, a, e1, e2, h2⟩
    · rw [e] at hg'
      cases hg'
    · obtain ⟨z, q⟩ := row_at hr (first_sizes n) e2
      obtain ⟨z1, z2⟩ := sizes_ok z
      have et : (a.1 ++ a.2).take n = a.1 := by
        rw [← z1, List.take_left]
      have ed : (a.1 ++ a.2).drop n = a.2 := by
        rw [← z1, List.drop_left]
      rw [← e1, hg', List.getElem?_eq_none (Nat.le_refl _)] at q
      exact next_end (I.ok.hd hc) h2 pt ha.1 (by rw [et, ed, q]) fun h' g3 => ⟨rfl, I.turned (t' := s.toks) g3 f0 f1 f3 f4 f5⟩
  self := fun A i s Q E st h => by
    obtain ⟨h1, last, h2⟩ := st
    rcases h2 with ⟨_, h2⟩ | ⟨j, a, _, _, h2⟩
    · exact iter_ok h2 h
    · exact iter_ok h2 h
end Pm
/-- permutations(range(n)) -/
def permD (n : Nat) : Option (List D) := (Pm.states n).map fun qs => qs.map fun a => .tuple (a.1.map (Pm.dAt n))
def fPerm (f : FE) : FI := fun s => (f s).bind fun r s1 => match r with
  | .imm (.int j) => if 0 ≤ j ∧ j ≤ 1000 then (match permD j.toNat with
    | some ds => .ok ds s1
    | none => .no) else .no
  | _ => .no
theorem dps_at {K : PySem.W.Frag} {B : Hp} (n : Nat) : ∀ ix : List Nat, DpAll K B (ix.map (Pm.vAt n)) (ix.map (Pm.dAt n))
  | [] => .nil
  | i :: ix => by
    refine .cons ?_ (dps_at n ix)
    unfold Pm.vAt Pm.dAt
    split
    · exact .int _
    · exact .non
theorem itd_perm {K : PySem.W.Frag} {B : Hp} (n : Nat) (qs : List Pm.St2) : ItD K B (Pm.Itp n qs) (qs.map fun a => .tuple (a.1.map (Pm.dAt n))) := fun B2 H2 b1 b2 tb => by
  refine ⟨by rw [List.length_map]; rfl, fun i d e => ?_⟩
  rw [List.getElem?_map] at e
  cases ea : qs[i]? with
  | none =>
    rw [ea] at e
    cases e
  | some a =>
    rw [ea] at e
    cases e
    refine ⟨(List.getElem?_eq_some_iff.mp ea).1, fun x H3 y => ?_⟩
    obtain ⟨T, a', e1, rfl, hT, rfl⟩ := y
    rw [ea] at e1
    cases e1
    exact ⟨upd B2 T (.tup (a.1.map (Pm.vAt n))), .newB b2 hT, .tup upd_same (dps_at n a.1)⟩
def iPerm (ta : TE) : TI := fun σ H R => tRg1 ta σ H fun a0 b H1 => a0 = 0 ∧ ∃ (n : Nat) (r : List Pm.St2), b = (n : Nat) ∧ n ≤ 1000 ∧ Pm.Row n (Pm.first n) r ∧ R (Pm.Itp n (Pm.first n :: r)) H1
section
variable {X : Cx} {p : Pr} {W : WX} {f : FE} {a tg : Expr} {pos p1 p2 pos2 : Pos} {ta : TE}
theorem pi_perm {x : Str} (hc : X.calm = true) (hg : Gl X x) (hm : X.mg x = some (.type "itertools.permutations")) (hg2 : Gl X "range") (hm2 : X.mg "range" = none) (ha : PE X a ta) (hd : (x == ("__debug__" : Str)) = false := by decide) (h1 : starEach [a] X.env = (false, eval a X.env) :: starEach [] X.env := by rfl)
    (h2 : starEach [Expr.Call (.Name "range" p2) [a] [] pos2] X.env = (false, eval (Expr.Call (.Name "range" p2) [a] [] pos2) X.env) :: starEach [] X.env := by rfl) :
    PI X tg (.Call (.Name x p1) [.Call (.Name "range" p2) [a] [] pos2] [] pos) (iPerm ta) := by
  refine ⟨fun pins s σ H R I h => ?_⟩
  refine Call_ (ld_glob I hg hm (PyProof.Rows.callWith_type1 (args_cons (thn (prg_1 (pos := pos2) (p := p2) hg2 hm2 ha h1 pins s σ H (fun a0 b H1 => a0 = 0 ∧ ∃ (n : Nat) (r : List Pm.St2), b = (n : Nat) ∧ n ≤ 1000 ∧ Pm.Row n (Pm.first n) r ∧ R (Pm.Itp n (Pm.first n :: r)) H1) I ?_) fun x s1 ⟨r, a0, b, t, u, v, H1, ex, hr, I1, e0, n, qs, eb, hn, hrow, q⟩ => args_nil ?_) h2) h2) hd)
  · exact h
  · subst ex e0 eb
    have hd := I1.ok.hd hc
    refine Pm.call_new (n := n) hd hr (small_one (by omega) (by omega) (by omega) (by omega)) (by rw [rangeSize_nat]; omega) hn fun h' tk acc hk hacc => ?_
    have e2 : (h'.push { cls := .type "tuple", data := .seq acc }).objs.size = h'.objs.size + 1 := Heap.size_push ..
    have g1 : ((h'.push { cls := .type "tuple", data := .seq acc }).push (Pm.ob h'.objs.size 0 n .none (List.range n ++ (List.range n).map fun i => n - i))).get? (h'.objs.size + 1) = some (Pm.ob h'.objs.size 0 n .none (List.range n ++ (List.range n).map fun i => n - i)) := by
      rw [← e2]
      exact Heap.get?_push_size _ rfl
    have g2 : ((h'.push { cls := .type "tuple", data := .seq acc }).push (Pm.ob h'.objs.size 0 n .none (List.range n ++ (List.range n).map fun i => n - i))).get? h'.objs.size = some { cls := .type "tuple", data := .seq acc } := Heap.get?_push_of_some _ (Heap.get?_push_size _ rfl)
    have I0 : Inv X pins σ H1 { s1 with heap := h', toks := tk } := I1.kept (t' := tk) hk
    have I2 : Inv X pins σ H1 { s1 with heap := (h'.push { cls := .type "tuple", data := .seq acc }).push (Pm.ob h'.objs.size 0 n .none (List.range n ++ (List.range n).map fun i => n - i)), toks := tk } := I0.kept (t' := tk) fun b o e => Heap.get?_push_of_some _ (Heap.get?_push_of_some _ e)
    refine Pm.iter_ok (n := n) g1 ⟨h'.objs.size + 1, [h'.objs.size + 1, h'.objs.size], _, _, H1, rfl, I2, Pm.turn_perm (h'.objs.size + 1) h'.objs.size (Nat.succ_ne_self _) hn hacc hrow, ⟨g2, .none, .inl ⟨rfl, g1⟩⟩, fun b hb => ?_, q⟩
    have hle : h'.objs.size ≤ b := by
      rcases List.mem_cons.mp hb with z | z
      · rw [z]; exact Nat.le_add_right _ _
      · rw [List.mem_singleton.mp z]; exact Nat.le_refl _
    exact I0.fpOk hle (I0.hok.fresh hle)
theorem di_perm {x : Str} (hc : X.calm = true) (hg : Gl X x) (hm : X.mg x = some (.type "itertools.permutations")) (hg2 : Gl X "range") (hm2 : X.mg "range" = none) (ha : PE X a (tE p W f)) (hd : (x == ("__debug__" : Str)) = false := by decide) (h1 : starEach [a] X.env = (false, eval a X.env) :: starEach [] X.env := by rfl)
    (h2 : starEach [Expr.Call (.Name "range" p2) [a] [] pos2] X.env = (false, eval (Expr.Call (.Name "range" p2) [a] [] pos2) X.env) :: starEach [] X.env := by rfl) :
    PI X tg (.Call (.Name x p1) [.Call (.Name "range" p2) [a] [] pos2] [] pos) (tI p W (fPerm f)) := PI.imp (pi_perm hc hg hm hg2 hm2 ha hd h1 h2) fun σ H R h => by
  obtain ⟨B, s, ok, q⟩ := h
  refine ⟨B, s, ok, run_mono (run_bind q) fun r s1 B1 H1 x1 ok1 k v hv => ?_⟩
  split at k
  · rename_i j
    by_cases hj : 0 ≤ j ∧ j ≤ 1000
    · rw [if_pos hj] at k
      unfold permD at k
      cases es : Pm.states j.toNat with
      | none =>
        rw [es] at k
        exact k.elim
      | some qs =>
        rw [es] at k
        cases hv
        unfold Pm.states at es
        cases el : Pm.later j.toNat 1000000 (Pm.first j.toNat) with
        | none =>
          rw [el] at es
          cases es
        | some r =>
          rw [el] at es
          cases es
          exact ⟨j, rfl, rfl, j.toNat, r, by omega, by omega, Pm.later_row el, k B1 H1 .refl ok1 _ (itd_perm _ _)⟩
    · rw [if_neg hj] at k
      exact k.elim
  · exact k.elim
end
end DL
end

set_option Elab.async false
set_option linter.all false
set_option maxRecDepth 100000
set_option maxHeartbeats 4000000
noncomputable section
namespace DL
open PySem PySem.Spec PyProof.Rows L2
section
variable {P : Program} {w : World} {K : PySem.W.Frag} {mg : Str → Option Value} {base : Heap}
/-- no promise at all: where the fuel ends -/
theorem fn_noD {x qual : Str} {st : Stmt} {f : Addr} {fd : FuncData} {N ps : List Str} {k : Nat} {C : Nat → Option Addr} {fld : Nat → Str} (F : Fun K x qual st f fd) (S : FnScope N ps (defScope st)) :
    FnOk P w K mg base (L2.CX P w) (k + 1) f fd ps (spD K C fld fun _ => .no) := by
  refine F.okX S (fun vs H Q E h => ?_) (fun cdv A outer s H vs Q E hr h => ?_)
  · obtain ⟨_, _, _, _, h⟩ := h
    exact h.elim
  · obtain ⟨_, _, _, _, h⟩ := h
    exact h.elim
end
/-! ### name = [.. for ..] on one row -/
/-- what never is a new dict is a list or data -/
theorem imm_to {p : Pr} {W : WX} {f : FE} {σ : St} {H : Hp} {Q : VK} (nd : ∀ s ks s', f s ≠ .ok (.tmpd ks) s') (h : tE p W (fI f) σ H Q) : tE p W f σ H Q := by
  obtain ⟨B, s, ok, q⟩ := h
  refine ⟨B, s, ok, ?_⟩
  unfold fI at q
  cases ef : f s with
  | no =>
    rw [ef] at q
    exact q
  | ex e' s' =>
    rw [ef] at q
    exact q
  | ok r1 s1 =>
    rw [ef] at q
    intro B1 H1 x1 ok1 v hv
    cases r1 with
    | imm d => exact q B1 H1 x1 ok1 v hv
    | slot i => exact q.elim
    | tmpd ks => exact absurd ef (nd _ _ _)
    | tmp xs =>
      obtain ⟨c, vs, rfl, h0, h1, h2, h3, h4⟩ := hv
      refine q (upd B1 c (.lst vs)) H1 ⟨x1.bb.trans (same_upd h2), x1.hh, x1.dom, fun b z e => ?_, x1.own⟩ (ok1.froz (ok.dom c h0) h1 h2 h4) _ (Dp.lst (.inl (Rd.of upd_same)) (dps_same (same_upd h2) _ _ h3))
      rw [upd_ne (fun w => z (by rw [w]; exact h0))]
      exact x1.new b z e
theorem lc_nd {it : FI} {g : D → SD → Option SD} {cond : FT} {fe : FE} {vs : List Nat} (s : SD) (ks : List (D × D)) (s' : SD) : fLc it vs g cond fe s ≠ .ok (.tmpd ks) s' := by
  intro h
  unfold fLc at h
  cases ei : it s with
  | no =>
    rw [ei] at h
    cases h
  | ex e s1 =>
    rw [ei] at h
    cases h
  | ok ds s1 =>
    rw [ei] at h
    have h : (if vs.all (plainAt s1) then (match loopC g cond fe vs ds (wipeD s1 vs) [] with | .ok acc s2 => R.ok (RV.tmp acc) (backD s1 s2 vs) | _ => .no) else .no) = .ok (RV.tmpd ks) s' := h
    split at h
    · split at h <;> cases h
    · cases h
section
variable {X : Cx} {p : Pr} {W : WX} {it : FI} {is : List Nat} {g : D → SD → Option SD} {cond : FT} {fe : FE} {elt tg iter : Expr} {ifs : List Expr} {scope : Scope} {own : List (Str × Nat)} {y : Str} {py pos spos : Pos} {t : TG}
theorem ds_lcI (i : Nat) (hc : X.calm = true) (hN : X.N.Nodup) (hi : PI X tg iter (tI p W it)) (ok : BlkOk X.N X.env.scope scope own) (hg : ∀ (s : Shared) (H : Hp) (C : Addr) (cl : List (Str × Addr)) (fp : List Addr), PG (X.blk s H scope (compEnvC scope cl C X.env) fp) tg t) (tq : TqD p t is g)
    (ht : ∀ (s : Shared) (H : Hp) (C : Addr) (cl : List (Str × Addr)) (fp : List Addr), PTs (X.blk s H scope (compEnvC scope cl C X.env) fp) ifs (tT p WF cond)) (he : ∀ (s : Shared) (H : Hp) (C : Addr) (cl : List (Str × Addr)) (fp : List Addr), PE (X.blk s H scope (compEnvC scope cl C X.env) fp) elt (tE p WF fe))
    (hsub : ∀ i ∈ is, i ∈ own.map (·.2)) (hy : X.N[i]? = some y := by rfl) (hyl : X.env.scope.names.lookup y = some .local := by rfl) (hk : X.env.scope.kind = .function := by rfl) (hl : (py.line == pos.line) = true := by rfl)
    (hsw : (scope.names.any fun (n, k) => n == y && (k == .local || k == .cell)) = false := by rfl) (hs : ∀ x, foldedSetIterable iter X.env x = pure x := by intro _; rfl) :
    PS X (.Assign [.Name y py] (.ListComp elt [⟨tg, iter, ifs, 0⟩] scope pos) spos) (tS p W (fSetI i (fLc it (own.map (·.2)) g cond fe))) :=
  PS.imp (ps_setLc hc hN hy hyl (sw_true hk hyl hl hsw) hi ok hg ht he hs) fun Dn σ H h => lc_of tq.run tq.own hsub (imm_to lc_nd (setI_of h))
theorem ds_lcO (i : Nat) (hc : X.calm = true) (hN : X.N.Nodup) (hi : PI X tg iter (tI p W it)) (ok : BlkOk X.N X.env.scope scope own) (hg : ∀ (s : Shared) (H : Hp) (C : Addr) (cl : List (Str × Addr)) (fp : List Addr), PG (X.blk s H scope (compEnvC scope cl C X.env) fp) tg t) (tq : TqD p t is g)
    (ht : ∀ (s : Shared) (H : Hp) (C : Addr) (cl : List (Str × Addr)) (fp : List Addr), PTs (X.blk s H scope (compEnvC scope cl C X.env) fp) ifs (tT p WF cond)) (he : ∀ (s : Shared) (H : Hp) (C : Addr) (cl : List (Str × Addr)) (fp : List Addr), PE (X.blk s H scope (compEnvC scope cl C X.env) fp) elt (tE p WF fe))
    (hsub : ∀ i ∈ is, i ∈ own.map (·.2)) (hy : X.N[i]? = some y := by rfl) (hyl : X.env.scope.names.lookup y = some .local := by rfl) (hk : X.env.scope.kind = .function := by rfl) (hl : (py.line == pos.line) = true := by rfl)
    (hsw : (scope.names.any fun (n, k) => n == y && (k == .local || k == .cell)) = false := by rfl) (hs : ∀ x, foldedSetIterable iter X.env x = pure x := by intro _; rfl) :
    PS X (.Assign [.Name y py] (.ListComp elt [⟨tg, iter, ifs, 0⟩] scope pos) spos) (tS p W (fSetO i (fLc it (own.map (·.2)) g cond fe))) :=
  PS.imp (ps_setLc hc hN hy hyl (sw_true hk hyl hl hsw) hi ok hg ht he hs) fun Dn σ H h => lc_of tq.run tq.own hsub (setO_of h)
end
end DL
end

set_option Elab.async false
set_option linter.all false
set_option maxRecDepth 100000
set_option maxHeartbeats 4000000
noncomputable section
namespace DL
open PySem PySem.Spec PyProof.Rows

/-! ### how the functions of data run: rows for simp -/
theorem g0 {x : Option DV} {r : SD} : getS (x :: r) 0 = some x := rfl
theorem gs {x : Option DV} {r : SD} {n : Nat} : getS (x :: r) (n + 1) = getS r n := rfl
theorem z0 {x v : Option DV} {r : SD} : setS (x :: r) 0 v = v :: r := rfl
theorem zs {x v : Option DV} {r : SD} {n : Nat} : setS (x :: r) (n + 1) v = x :: setS r n v := rfl

/-! ### comprehensions in parts -/
section
variable {g : D → SD → Option SD} {cond : FT} {elt : FE} {vs : List Nat}
theorem loopC_cons {d : D} {ds acc : List D} {s : SD} : loopC g cond elt vs (d :: ds) s acc = match g d s with
    | none => .no
    | some s1 => match cond s1 with
      | .ok true s2 => (match elt s2 with
        | .ok (.imm x) s3 => if acc.length < mx then loopC g cond elt vs ds (wipeD s3 vs) (acc ++ [x]) else .no
        | _ => .no)
      | .ok false s2 => loopC g cond elt vs ds (wipeD s2 vs) acc
      | _ => .no := rfl
theorem loopC_app : ∀ (d1 d2 : List D) (s : SD) (acc : List D), loopC g cond elt vs (d1 ++ d2) s acc = match loopC g cond elt vs d1 s acc with
    | .ok a s' => loopC g cond elt vs d2 s' a
    | .ex e s' => .ex e s'
    | .no => .no
  | [], d2, s, acc => rfl
  | d :: d1, d2, s, acc => by
    rw [List.cons_append, loopC_cons, loopC_cons]
    cases g d s with
    | none => rfl
    | some s1 =>
      dsimp only
      cases cond s1 with
      | no => rfl
      | ex _ _ => rfl
      | ok b s2 =>
        cases b with
        | false => exact loopC_app d1 d2 _ _
        | true =>
          dsimp only
          cases elt s2 with
          | no => rfl
          | ex _ _ => rfl
          | ok r s3 =>
            cases r with
            | tmp _ => rfl
            | slot _ => rfl
            | tmpd _ => rfl
            | imm x =>
              dsimp only
              by_cases h : acc.length < mx
              · rw [if_pos h, if_pos h]
                exact loopC_app d1 d2 _ _
              · rw [if_neg h, if_neg h]
theorem loopC_len : ∀ (ds : List D) (s s' : SD) (acc out : List D), loopC g cond elt vs ds s acc = .ok out s' → acc.length ≤ out.length
  | [], s, s', acc, out, h => by
    cases h
    exact Nat.le_refl _
  | d :: ds, s, s', acc, out, h => by
    unfold loopC at h
    split at h
    · cases h
    · split at h
      · split at h
        · split at h
          · have := loopC_len ds _ _ _ _ h
            rw [List.length_append] at this
            exact Nat.le_trans (Nat.le_add_right _ _) this
          · cases h
        · cases h
      · exact loopC_len ds _ _ _ _ h
      · cases h
theorem loopC_pre (pre : List D) : ∀ (ds : List D) (s s' : SD) (acc out : List D), loopC g cond elt vs ds s acc = .ok out s' → pre.length + out.length ≤ mx → loopC g cond elt vs ds s (pre ++ acc) = .ok (pre ++ out) s'
  | [], s, s', acc, out, h, hl => by
    cases h
    rfl
  | d :: ds, s, s', acc, out, h, hl => by
    unfold loopC at h ⊢
    cases eg : g d s with
    | none =>
      rw [eg] at h
      cases h
    | some s1 =>
      rw [eg] at h
      dsimp only at h ⊢
      cases ec : cond s1 with
      | no =>
        rw [ec] at h
        cases h
      | ex _ _ =>
        rw [ec] at h
        cases h
      | ok b s2 =>
        rw [ec] at h
        cases b with
        | false =>
          dsimp only at h ⊢
          exact loopC_pre pre ds _ _ _ _ h hl
        | true =>
          dsimp only at h ⊢
          cases ee : elt s2 with
          | no =>
            rw [ee] at h
            cases h
          | ex _ _ =>
            rw [ee] at h
            cases h
          | ok r s3 =>
            rw [ee] at h
            cases r with
            | tmp _ => cases h
            | slot _ => cases h
            | tmpd _ => cases h
            | imm x =>
              dsimp only at h ⊢
              by_cases hm : acc.length < mx
              · rw [if_pos hm] at h
                have hq := loopC_len ds _ _ _ _ h
                rw [List.length_append, List.length_singleton] at hq
                rw [if_pos (by rw [List.length_append]; omega)]
                have := loopC_pre pre ds _ _ _ _ h hl
                rw [← List.append_assoc] at this
                exact this
              · rw [if_neg hm] at h
                cases h
/-- part by part: each part from nothing, the state kept -/
theorem loopC_step {d1 d2 o1 out acc : List D} {s s' : SD} (h1 : loopC g cond elt vs d1 s [] = .ok o1 s) (hl : acc.length + o1.length ≤ mx) (h2 : loopC g cond elt vs d2 s (acc ++ o1) = .ok out s') : loopC g cond elt vs (d1 ++ d2) s acc = .ok out s' := by
  have q := loopC_pre acc d1 s s [] o1 h1 hl
  rw [List.append_nil] at q
  rw [loopC_app, q]
  exact h2
end

/-! ### a code of data: equal data have equal codes -/
mutual
def codeD (n : Nat) : D → Nat
  | .none => n * 256 + 1
  | .bool b => (n * 256 + 2) * 256 + (if b then 1 else 0)
  | .int i => (n * 256 + 2) * 256 + i.toNat
  | .str x => n * 256 + 3 + x.length
  | .list xs => codeL (n * 256 + 4) xs
  | .tuple xs => codeL (n * 256 + 5) xs
  | .dict _ => n
def codeL (n : Nat) : List D → Nat
  | [] => n * 256 + 6
  | x :: xs => codeL (codeD n x) xs
end
mutual
theorem code_eqv : ∀ (x y : D) (n : Nat), PyData.eqv x y = true → codeD n x = codeD n y
  | .none, y, n, h => by
    cases y with
    | none => rfl
    | _ => simp [PyData.eqv] at h
  | .bool a, y, n, h => by
    cases y with
    | bool b =>
      simp only [PyData.eqv, beq_iff_eq] at h
      rw [h]
    | int j =>
      simp only [PyData.eqv, beq_iff_eq] at h
      subst h
      unfold codeD
      cases a <;> rfl
    | _ => simp [PyData.eqv] at h
  | .int i, y, n, h => by
    cases y with
    | bool b =>
      simp only [PyData.eqv, beq_iff_eq] at h
      subst h
      unfold codeD
      cases b <;> rfl
    | int j =>
      simp only [PyData.eqv, beq_iff_eq] at h
      rw [h]
    | _ => simp [PyData.eqv] at h
  | .str a, y, n, h => by
    cases y with
    | str b =>
      simp only [PyData.eqv, beq_iff_eq] at h
      rw [h]
    | _ => simp [PyData.eqv] at h
  | .list xs, y, n, h => by
    cases y with
    | list ys =>
      simp only [PyData.eqv] at h
      unfold codeD
      exact codes_eqv xs ys _ h
    | _ => simp [PyData.eqv] at h
  | .tuple xs, y, n, h => by
    cases y with
    | tuple ys =>
      simp only [PyData.eqv] at h
      unfold codeD
      exact codes_eqv xs ys _ h
    | _ => simp [PyData.eqv] at h
  | .dict xs, y, n, h => by
    cases y <;> simp [PyData.eqv] at h
theorem codes_eqv : ∀ (xs ys : List D) (n : Nat), PyData.eqvAll xs ys = true → codeL n xs = codeL n ys
  | [], ys, n, h => by
    cases ys with
    | nil => rfl
    | cons y ys => simp [PyData.eqvAll] at h
  | x :: xs, ys, n, h => by
    cases ys with
    | nil => simp [PyData.eqvAll] at h
    | cons y ys =>
      simp only [PyData.eqvAll, Bool.and_eq_true] at h
      unfold codeL
      rw [code_eqv x y n h.1]
      exact codes_eqv xs ys _ h.2
end
theorem code_ne {x y : D} (h : codeD 1 x ≠ codeD 1 y) : PyData.eqv x y = false := by
  cases e : PyData.eqv x y with
  | false => rfl
  | true => exact absurd (code_eqv x y 1 e) h
end DL
end

set_option Elab.async false
set_option linter.all false
set_option maxRecDepth 100000
set_option maxHeartbeats 4000000
noncomputable section
namespace DL
open PySem PySem.Spec PyProof.Rows

/-! ### how functions of data run: one step at a time -/
section
variable {f g : FS} {e e2 : FE} {u : FT} {s s1 s2 s3 : SD} {r : RS} {d d2 : D} {xs ys ds out : List D} {i j : Nat}
theorem rbind_ok {α β : Type} {a : α} {s : SD} {k : α → SD → R β} : (R.ok a s).bind k = k a s := rfl
theorem seq_nx (h : f s = .nx s1) (k : g s1 = r) : fSeq f g s = r := by
  unfold fSeq
  rw [h]
  exact k
theorem seq_rt {v : RV} (h : f s = .rt v s1) : fSeq f g s = .rt v s1 := by
  unfold fSeq
  rw [h]
theorem seq_ex {v : DExc} (h : f s = .ex v s1) : fSeq f g s = .ex v s1 := by
  unfold fSeq
  rw [h]
theorem fI_imm (h : e s = .ok (.imm d) s1) : fI e s = .ok (.imm d) s1 := by
  unfold fI
  rw [h]
  rfl
theorem fI_tmp (h : e s = .ok (.tmp xs) s1) : fI e s = .ok (.imm (.list xs)) s1 := by
  unfold fI
  rw [h]
  rfl
theorem setI_nx (h : e s = .ok (.imm d) s1) (h2 : setD s1 i (.imm d) = some s2) : fSetI i e s = .nx s2 := by
  unfold fSetI
  rw [fI_imm h]
  show (match setD s1 i (.imm d) with | some s2 => RS.nx s2 | none => .no) = _
  rw [h2]
theorem setI_tmp (h : e s = .ok (.tmp xs) s1) (h2 : setD s1 i (.imm (.list xs)) = some s2) : fSetI i e s = .nx s2 := by
  unfold fSetI
  rw [fI_tmp h]
  show (match setD s1 i (.imm (.list xs)) with | some s2 => RS.nx s2 | none => .no) = _
  rw [h2]
theorem setO_nx (h : e s = .ok (.tmp xs) s1) (h2 : setD s1 i (.own xs) = some s2) : fSetO i e s = .nx s2 := by
  unfold fSetO
  rw [h]
  show (match setD s1 i (.own xs) with | some s2 => RS.nx s2 | none => .no) = _
  rw [h2]
theorem ifS_t (h : u s = .ok true s1) (k : f s1 = r) : fIfS u f g s = r := by
  unfold fIfS
  rw [h]
  exact k
theorem ifS_f (h : u s = .ok false s1) (k : g s1 = r) : fIfS u f g s = r := by
  unfold fIfS
  rw [h]
  exact k
theorem ret_imm (h : e s = .ok (.imm d) s1) : fRet e s = .rt (.imm d) s1 := by
  unfold fRet
  rw [h]
  rfl
theorem ret_tmp (h : e s = .ok (.tmp xs) s1) : fRet e s = .rt (.tmp xs) s1 := by
  unfold fRet
  rw [h]
  rfl
theorem drop_nx {v : RV} (h : e s = .ok v s1) : fDrop e s = .nx s1 := by
  unfold fDrop
  rw [h]
  rfl
theorem drop_ex {v : DExc} (h : e s = .ex v s1) : fDrop e s = .ex v s1 := by
  unfold fDrop
  rw [h]
  rfl
theorem for_is {it : FI} {gg : D → SD → Option SD} {body : FS} (h : it s = .ok ds s1) (k : loopF gg body ds s1 = r) : fFor it gg body s = r := by
  unfold fFor
  rw [h]
  exact k
theorem lc_ok {it : FI} {gg : D → SD → Option SD} {cond : FT} {vs : List Nat} (h : it s = .ok ds s1) (hp : vs.all (plainAt s1) = true) (hl : loopC gg cond e vs ds (wipeD s1 vs) [] = .ok out s2) (hb : backD s1 s2 vs = s3) : fLc it vs gg cond e s = .ok (.tmp out) s3 := by
  unfold fLc
  rw [h]
  show (if vs.all (plainAt s1) then _ else _) = _
  rw [if_pos hp, hl, ← hb]
theorem it_list (h : e s = .ok (.imm (.list ds)) s1) : fIt e s = .ok ds s1 := by
  unfold fIt
  rw [h]
  rfl
theorem it_tup (h : e s = .ok (.imm (.tuple ds)) s1) : fIt e s = .ok ds s1 := by
  unfold fIt
  rw [h]
  rfl
theorem rng1_ok {fa : FA} {n : Nat} (h : fa s = .ok [.imm (.int n)] s1) (hb : n ≤ mx) : fRng1 fa s = .ok (rgFrom 0 n) s1 := by
  have hb' : bnd62 n = true := by
    unfold bnd62
    have : mx = 16000000 := rfl
    rw [Bool.and_eq_true, decide_eq_true_eq, decide_eq_true_eq]
    omega
  unfold fRng1
  rw [h, rbind_ok]
  dsimp only
  rw [if_pos hb', Int.toNat_natCast]
theorem tr_ok {v : RV} {b : Bool} (h : e s = .ok v s1) (h2 : asB v = some b) : fTr e s = .ok b s1 := by
  unfold fTr
  rw [h]
  show (match asB v with | some b => R.ok b s1 | none => .no) = _
  rw [h2]
theorem not_ok {b : Bool} (h : u s = .ok b s1) : fNot u s = .ok (!b) s1 := by
  unfold fNot
  rw [h]
  rfl
theorem not_t (h : u s = .ok true s1) : fNot u s = .ok false s1 := not_ok h
theorem not_f (h : u s = .ok false s1) : fNot u s = .ok true s1 := not_ok h
theorem or_t {v : FT} (h : u s = .ok true s1) : fOr u v s = .ok true s1 := by
  unfold fOr
  rw [h]
  rfl
theorem or_f {v : FT} (h : u s = .ok false s1) : fOr u v s = v s1 := by
  unfold fOr
  rw [h]
  rfl
theorem and_t {v : FT} (h : u s = .ok true s1) : fAnd u v s = v s1 := by
  unfold fAnd
  rw [h]
  rfl
theorem and_f {v : FT} (h : u s = .ok false s1) : fAnd u v s = .ok false s1 := by
  unfold fAnd
  rw [h]
  rfl
theorem andV_t {v : RV} (h : e s = .ok v s1) (h2 : asB v = some true) : fAndV e e2 s = e2 s1 := by
  unfold fAndV
  rw [h]
  show (match asB v with | some true => _ | some false => _ | none => _) = _
  rw [h2]
theorem f2_ok {h : D → D → Option PO} {r1 r2 : RV} {o : PO} (ha : e s = .ok r1 s1) (hb : e2 s1 = .ok r2 s2) (va : view s2 r1 = some d) (vb : view s2 r2 = some d2) (ho : h d d2 = some o) : f2 h e e2 s = poR s2 o := by
  unfold f2
  rw [ha]
  show (R.bind (e2 s1) _) = _
  rw [hb]
  show (match view s2 r1, view s2 r2 with | some d, some e => oR s2 (h d e) | _, _ => .no) = _
  rw [va, vb]
  show oR s2 (h d d2) = _
  rw [ho]
  rfl
theorem f1_ok {h : D → Option PO} {r1 : RV} {o : PO} (ha : e s = .ok r1 s1) (va : view s1 r1 = some d) (ho : h d = some o) : f1 h e s = poR s1 o := by
  unfold f1
  rw [ha]
  show (match view s1 r1 with | some d => oR s1 (h d) | none => .no) = _
  rw [va]
  show oR s1 (h d) = _
  rw [ho]
  rfl
theorem call_ok {h : List D → Option PO} {fa : FA} {rs : List RV} {o : PO} (ha : fa s = .ok rs s1) (va : views s1 rs = some ds) (ho : h ds = some o) : fCall h fa s = poR s1 o := by
  unfold fCall
  rw [ha]
  show (match views s1 rs with | some ds => oR s1 (h ds) | none => .no) = _
  rw [va]
  show oR s1 (h ds) = _
  rw [ho]
  rfl
theorem cons_ok {fa : FA} {v : RV} {rs : List RV} (h : e s = .ok v s1) (h2 : fa s1 = .ok rs s2) : faCons e fa s = .ok (v :: rs) s2 := by
  unfold faCons
  rw [h]
  show R.bind (fa s1) _ = _
  rw [h2]
  rfl
/-- calls: no list is lent -/
theorem callF_imm {F : List AV → RF} {fa : FA} {rs : List RV} {as as' : List AV} (ha : fa s = .ok rs s1) (ht : toAVs s1 rs = some as) (hs : slotsOf rs = []) (hF : F as = .ret (.imm d) as') : fCallF F fa s = .ok (.imm d) s1 := by
  unfold fCallF
  rw [ha]
  show (match toAVs s1 rs with | none => _ | some as => _) = _
  rw [ht]
  dsimp only
  rw [hs]
  dsimp only
  rw [hF]
theorem callF_tmp {F : List AV → RF} {fa : FA} {rs : List RV} {as as' : List AV} (ha : fa s = .ok rs s1) (ht : toAVs s1 rs = some as) (hs : slotsOf rs = []) (hF : F as = .ret (.tmp xs) as') : fCallF F fa s = .ok (.tmp xs) s1 := by
  unfold fCallF
  rw [ha]
  show (match toAVs s1 rs with | none => _ | some as => _) = _
  rw [ht]
  dsimp only
  rw [hs]
  dsimp only
  rw [hF]
theorem callF_exc {F : List AV → RF} {fa : FA} {rs : List RV} {as as' : List AV} {x : DExc} (ha : fa s = .ok rs s1) (ht : toAVs s1 rs = some as) (hs : slotsOf rs = []) (hF : F as = .exc x as') : fCallF F fa s = .ex x s1 := by
  unfold fCallF
  rw [ha]
  show (match toAVs s1 rs with | none => _ | some as => _) = _
  rw [ht]
  dsimp only
  rw [hs]
  dsimp only
  rw [hF]
/-- one list is lent -/
theorem callF_lent {F : List AV → RF} {fa : FA} {rs : List RV} {as as' : List AV} (ha : fa s = .ok rs s1) (ht : toAVs s1 rs = some as) (hs : slotsOf rs = [i]) (hF : F as = .ret (.imm d) as') (hsh : shape as as' = true) (hl : lentOf as' = some xs) (hc : setC s1 i (fun _ => some xs) = some s2) : fCallF F fa s = .ok (.imm d) s2 := by
  unfold fCallF
  rw [ha]
  show (match toAVs s1 rs with | none => _ | some as => _) = _
  rw [ht]
  dsimp only
  rw [hs]
  dsimp only
  rw [hF]
  dsimp only
  rw [if_pos hsh, hl]
  dsimp only
  rw [hc]
theorem mkF_imm {m n : Nat} {body : FS} {as as' : List AV} (hl : as.length = m) (h : body (s0 as n) = .rt (.imm d) s) (ho : outA as s = some as') : mkF m n body as = .ret (.imm d) as' := by
  unfold mkF
  rw [if_pos hl, h]
  dsimp only
  rw [ho]
theorem mkF_tmp {m n : Nat} {body : FS} {as as' : List AV} (hl : as.length = m) (h : body (s0 as n) = .rt (.tmp xs) s) (ho : outA as s = some as') : mkF m n body as = .ret (.tmp xs) as' := by
  unfold mkF
  rw [if_pos hl, h]
  dsimp only
  rw [ho]
end

/-! ### comprehensions and loops at once -/
section
variable {gg : D → SD → Option SD} {cond : FT} {elt : FE} {vs : List Nat} {s : SD}
theorem loopC_filter {p : D → Bool} {f : D → D} : ∀ (ds acc : List D), (∀ d ∈ ds, ∃ s1 s2, gg d s = some s1 ∧ cond s1 = .ok (p d) s2 ∧ (p d = false → wipeD s2 vs = s) ∧ (p d = true → ∃ s3, elt s2 = .ok (.imm (f d)) s3 ∧ wipeD s3 vs = s)) → acc.length + ds.length ≤ mx → loopC gg cond elt vs ds s acc = .ok (acc ++ (ds.filter p).map f) s
  | [], acc, _, _ => by
    rw [List.filter_nil, List.map_nil, List.append_nil]
    rfl
  | d :: ds, acc, h, hl => by
    obtain ⟨s1, s2, h1, h2, h3, h4⟩ := h d (List.mem_cons_self ..)
    rw [List.length_cons] at hl
    rw [loopC_cons, h1]
    dsimp only
    rw [h2]
    cases hp : p d with
    | false =>
      rw [List.filter_cons_of_neg (by rw [hp]; exact Bool.false_ne_true)]
      dsimp only
      rw [h3 hp]
      exact loopC_filter ds acc (fun d' m => h d' (List.mem_cons_of_mem _ m)) (by omega)
    | true =>
      obtain ⟨s3, h5, h6⟩ := h4 hp
      rw [List.filter_cons_of_pos hp]
      dsimp only
      rw [h5]
      dsimp only
      rw [if_pos (by omega), h6, loopC_filter ds _ (fun d' m => h d' (List.mem_cons_of_mem _ m)) (by rw [List.length_append, List.length_singleton]; omega), List.append_assoc]
      rfl
theorem loopC_map {f : D → D} (ds acc : List D) (h : ∀ d ∈ ds, ∃ s1 s2 s3, gg d s = some s1 ∧ cond s1 = .ok true s2 ∧ elt s2 = .ok (.imm (f d)) s3 ∧ wipeD s3 vs = s) (hl : acc.length + ds.length ≤ mx) : loopC gg cond elt vs ds s acc = .ok (acc ++ ds.map f) s := by
  have q := loopC_filter (gg := gg) (cond := cond) (elt := elt) (vs := vs) (s := s) (p := fun _ => true) (f := f) ds acc (fun d m => by
    obtain ⟨s1, s2, s3, h1, h2, h3, h4⟩ := h d m
    refine ⟨s1, s2, h1, h2, fun z => ?_, fun _ => ⟨s3, h3, h4⟩⟩
    cases z) hl
  rw [show ds.filter (fun _ => true) = ds from List.filter_eq_self.mpr fun _ _ => rfl] at q
  exact q
/-- a loop by what holds between two turns -/
theorem loopF_inv {body : FS} (I : List D → SD → Prop) : ∀ (pre ds : List D) (s : SD), I pre s → (∀ p d q s, pre ++ ds = p ++ d :: q → I p s → ∃ s1 s2, gg d s = some s1 ∧ (body s1 = .nx s2 ∨ body s1 = .ct s2) ∧ I (p ++ [d]) s2) → ∃ s', loopF gg body ds s = .nx s' ∧ I (pre ++ ds) s'
  | pre, [], s, h, _ => ⟨s, rfl, by rw [List.append_nil]; exact h⟩
  | pre, d :: ds, s, h, hs => by
    obtain ⟨s1, s2, h1, h2, h3⟩ := hs pre d ds s rfl h
    obtain ⟨s', h4, h5⟩ := loopF_inv I (pre ++ [d]) ds s2 h3 (fun p d' q s' e => hs p d' q s' (by rw [← e, List.append_assoc]; rfl))
    refine ⟨s', ?_, by rw [List.append_assoc] at h5; exact h5⟩
    unfold loopF
    rw [h1]
    dsimp only
    rcases h2 with h2 | h2
    · rw [h2]
      exact h4
    · rw [h2]
      exact h4
end
/-! ### what follows, by a predicate -/
def stepsTo (I : SD → Prop) : RS → Prop
  | .nx s => I s
  | .ct s => I s
  | _ => False
section
variable {P : RS → Prop} {f g : FS} {e e2 : FE} {u : FT} {s s1 s2 s3 : SD} {r : RS} {d d2 x : D} {xs ys ds out : List D} {i j : Nat}
theorem w_seq (h : f s = .nx s1) (k : P (g s1)) : P (fSeq f g s) := by
  rw [seq_nx h rfl]
  exact k
theorem w_rt {v : RV} (h : f s = .rt v s1) (k : P (.rt v s1)) : P (fSeq f g s) := by
  rw [seq_rt h]
  exact k
theorem w_eq (h : f s = r) (k : P r) : P (f s) := by
  rw [h]
  exact k
theorem w_if {b : Bool} (h : u s = .ok b s1) (kt : b = true → P (f s1)) (kf : b = false → P (g s1)) : P (fIfS u f g s) := by
  cases b with
  | true =>
    rw [ifS_t h rfl]
    exact kt rfl
  | false =>
    rw [ifS_f h rfl]
    exact kf rfl
theorem w_for {it : FI} {gg : D → SD → Option SD} {body : FS} (I : List D → SD → Prop) (h : it s = .ok ds s1) (h0 : I [] s1) (hs : ∀ p d q s, ds = p ++ d :: q → I p s → ∃ s1, gg d s = some s1 ∧ stepsTo (I (p ++ [d])) (body s1)) (k : ∀ s', I ds s' → P (g s')) : P (fSeq (fFor it gg body) g s) := by
  obtain ⟨s', h1, h2⟩ := loopF_inv (gg := gg) (body := body) I [] ds s1 h0 (fun p d q s e hI => by
    obtain ⟨s2, h3, h4⟩ := hs p d q s e hI
    refine ⟨s2, ?_⟩
    cases hb : body s2 with
    | nx s3 =>
      rw [hb] at h4
      exact ⟨s3, h3, .inl rfl, h4⟩
    | ct s3 =>
      rw [hb] at h4
      exact ⟨s3, h3, .inr rfl, h4⟩
    | bk s3 =>
      rw [hb] at h4
      exact h4.elim
    | rt v s3 =>
      rw [hb] at h4
      exact h4.elim
    | ex v s3 =>
      rw [hb] at h4
      exact h4.elim
    | no =>
      rw [hb] at h4
      exact h4.elim)
  rw [seq_nx (for_is h h1) rfl]
  exact k s' h2
theorem f2_val {h : D → D → Option PO} {r1 r2 : RV} (ha : e s = .ok r1 s1) (hb : e2 s1 = .ok r2 s2) (va : view s2 r1 = some d) (vb : view s2 r2 = some d2) (ho : h d d2 = some (.val x)) : f2 h e e2 s = .ok (.imm x) s2 := f2_ok ha hb va vb ho
theorem f1_val {h : D → Option PO} {r1 : RV} (ha : e s = .ok r1 s1) (va : view s1 r1 = some d) (ho : h d = some (.val x)) : f1 h e s = .ok (.imm x) s1 := f1_ok ha va ho
theorem call_val {h : List D → Option PO} {fa : FA} {rs : List RV} (ha : fa s = .ok rs s1) (va : views s1 rs = some ds) (ho : h ds = some (.val x)) : fCall h fa s = .ok (.imm x) s1 := call_ok ha va ho
theorem par_nx {fa : FA} {r1 r2 : RV} {m n : Bool} (ha : fa s = .ok [r1, r2] s1) (hmn : (m && n) = false) (h1 : setM m s1 i r1 = some s2) (h2 : setM n s2 j r2 = some s3) : fPar i j m n fa s = .nx s3 := by
  unfold fPar
  rw [ha]
  show (if (m && n) = true then RS.no else _) = _
  rw [if_neg (by rw [hmn]; exact Bool.false_ne_true)]
  show (match setM m s1 i r1 with | some s2 => _ | none => _) = _
  rw [h1]
  show (match setM n s2 j r2 with | some s3 => RS.nx s3 | none => _) = _
  rw [h2]
end
end DL
end

set_option Elab.async false
set_option linter.all false
set_option maxRecDepth 100000
set_option maxHeartbeats 4000000
noncomputable section
namespace DL
open PySem PySem.Spec PyProof.Rows L2
/-! ### the law's own call -/
theorem ints_dps {K : PySem.W.Frag} {B : Hp} : ∀ ns : List Int, DpAll K B (ns.map V.int) (ns.map PyData.int)
  | [] => .nil
  | n :: ns => .cons (.int n) (ints_dps ns)
def spT (K : PySem.W.Frag) : Sp := fun vs H Q _ => ∃ (a : Addr) (ns : List Int), vs = [.ref a] ∧ SqL K H a (ns.map V.int) ∧ ns.length ≤ 63 ∧ ∀ H', Q (.bl true) H'
theorem spT_of {K : PySem.W.Frag} {C : Nat → Option Addr} {fld : Nat → Str} {F : List AV → RF} (hF : ∀ ns : List Int, ns.length ≤ 63 → ∃ as', F [.imm (.list (ns.map .int))] = .ret (.imm (.bool true)) as') (vs : List V) (H : Hp) (Q : VK) (E : XK) (h : spT K vs H Q E) : spD K C fld F vs H Q E := by
  obtain ⟨a, ns, rfl, hS, hl, hq⟩ := h
  obtain ⟨as', e⟩ := hF ns hl
  refine ⟨H, [.imm (.list (ns.map .int))], Same.refl _, ⟨rfl, fun i d hi => ?_, fun i xs hi => ?_, fun i j b h1 h2 => ?_, fun b xs h => h⟩, ?_⟩
  · match i, hi with
    | 0, hi =>
      cases hi
      exact ⟨_, rfl, .lst hS (ints_dps ns)⟩
    | i + 1, hi => simp at hi
  · match i, hi with
    | 0, hi => cases hi
    | i + 1, hi => simp at hi
  · match i, h1 with
    | 0, h1 => cases h1
    | i + 1, h1 => simp [lentL] at h1
  · rw [e]
    intro B' H' v hp hr
    cases hr
    exact hq H'
theorem exm_pair {K : PySem.W.Frag} {S C : Addr} {b : Bool} (h1 : PySem.W.subIn K (.ref C) (.type "BaseException") = some true) (h2 : PySem.W.isClsIn K C = true) (h3 : PySem.W.typeIn K (.ref C) = some (.type "type")) (h4 : PySem.W.subIn K (.ref S) (.ref C) = some b) : PySem.W.exmOne K (.ref S) (.ref C) = some b := by
  have e1 : (PySem.W.subIn K (.ref C) (.type "BaseException") == some true) = true := by
    rw [h1]
    rfl
  have e2 : ((PySem.W.clsIn K C).isSome && PySem.W.typeIn K (.ref C) == some (.type "type")) = true := by
    have h2' : (PySem.W.clsIn K C).isSome = true := h2
    rw [h2', h3]
    rfl
  show (if (PySem.W.subIn K (.ref C) (.type "BaseException") == some true) = true then (if ((PySem.W.clsIn K C).isSome && PySem.W.typeIn K (.ref C) == some (.type "type")) = true then PySem.W.subIn K (.ref S) (.ref C) else none) else none) = some b
  rw [if_pos e1, if_pos e2]
  exact h4
theorem cx_no {P : Program} (w : World) (H : Hp) (s : Shared) (e : Value) (s' : Shared) (h : L2.CX P w [] H s (fun _ _ _ => False) e s') : False := by
  obtain ⟨_, _, _, _, _, _, _, _, _, _, _, _, h⟩ := h
  exact h
end DL
end

set_option Elab.async false
set_option linter.all false
set_option maxRecDepth 100000
set_option maxHeartbeats 4000000
noncomputable section
namespace DL
open PySem PySem.Spec PyProof.Rows L2

/-! ### keys -/
def unD : D → Option Key
  | .int i => some (.inl i)
  | .str x => some (.inr x)
  | _ => none
def unDs : List D → Option (List Key)
  | [] => some []
  | d :: ds => match unD d, unDs ds with
    | some k, some ks => some (k :: ks)
    | _, _ => none
/-- a key that is a tuple of ints and texts -/
def unT : D → Option (List Key)
  | .tuple ds => unDs ds
  | _ => none
theorem unD_key (k : Key) : unD (keyD k) = some k := by cases k <;> rfl
theorem unDs_keys : ∀ ks : List Key, unDs (ks.map keyD) = some ks
  | [] => rfl
  | k :: ks => by
    show (match unD (keyD k), unDs (ks.map keyD) with | some k, some ks => some (k :: ks) | _, _ => none) = _
    rw [unD_key, unDs_keys ks]
theorem unD_eq {d : D} {k : Key} (h : unD d = some k) : d = keyD k := by
  unfold unD at h
  split at h
  · cases h; rfl
  · cases h; rfl
  · cases h
theorem unDs_eq : ∀ {ds : List D} {ks : List Key}, unDs ds = some ks → ds = ks.map keyD
  | [], ks, h => by
    cases h
    rfl
  | d :: ds, ks, h => by
    unfold unDs at h
    split at h
    · rename_i k r e1 e2
      cases h
      rw [unD_eq e1, unDs_eq e2]
      rfl
    · cases h
theorem unT_eq {d : D} {ks : List Key} (h : unT d = some ks) : d = .tuple (ks.map keyD) := by
  unfold unT at h
  split at h
  · rw [unDs_eq h]
  · cases h
theorem keys_vs {K : PySem.W.Frag} {B : Hp} : ∀ {vs : List V} {ks : List Key}, DpAll K B vs (ks.map keyD) → vs = ks.map kV
  | _, [], h => by
    cases h
    rfl
  | _, k :: ks, h => by
    have h : DpAll K B _ (keyD k :: ks.map keyD) := h
    cases h with
    | cons h t =>
      rw [keys_vs t]
      cases k with
      | inl i =>
        cases h
        rfl
      | inr x =>
        cases h
        rfl
theorem keys_dp {K : PySem.W.Frag} {B : Hp} : ∀ ks : List Key, DpAll K B (ks.map kV) (ks.map keyD)
  | [] => .nil
  | .inl i :: ks => .cons (.int i) (keys_dp ks)
  | .inr x :: ks => .cons (.str x) (keys_dp ks)
/-- what a dict of tuple keys holds at a key -/
def valT (ks : List (D × D)) (k : List Key) : Option D := (ks.find? fun e => decide (unT e.1 = some k)).map (·.2)
/-- a store -/
def putT (ks : List (D × D)) (k : List Key) (d : D) : List (D × D) := if ks.any (fun e => decide (unT e.1 = some k)) then ks.map (fun e => if unT e.1 = some k then (e.1, d) else e) else ks ++ [(.tuple (k.map keyD), d)]
theorem unT_key (k : List Key) : unT (.tuple (k.map keyD)) = some k := unDs_keys k
theorem valT_ok {K : PySem.W.Frag} {B : Hp} {k : List Key} : ∀ {kvs : List (List Key × V)} {ks : List (D × D)}, DtAll K B kvs ks → match valT ks k with
    | some d => ∃ v, valV kvs k = some v ∧ Dp K B v d
    | none => valV kvs k = none
  | _, _, .nil => rfl
  | _, _, .cons (k := k') (v := v) (d := d) (kvs := kvs) (ks := ks) h t => by
    by_cases e : k' = k
    · subst e
      have : valT ((.tuple (k'.map keyD), d) :: ks) k' = some d := by
        unfold valT
        rw [List.find?_cons_of_pos (by show decide (unT (.tuple (k'.map keyD)) = some k') = true; rw [unT_key, decide_eq_true rfl])]
        rfl
      rw [this]
      exact ⟨v, valV_pos rfl, h⟩
    · have : valT ((.tuple (k'.map keyD), d) :: ks) k = valT ks k := by
        unfold valT
        rw [List.find?_cons_of_neg (by show ¬ decide (unT (.tuple (k'.map keyD)) = some k) = true; rw [unT_key, decide_eq_true_eq]; exact fun z => e (Option.some.inj z))]
      rw [this, valV_neg e]
      exact valT_ok t
theorem dt_len {K : PySem.W.Frag} {B : Hp} : ∀ {kvs : List (List Key × V)} {ks : List (D × D)}, DtAll K B kvs ks → kvs.length = ks.length
  | _, _, .nil => rfl
  | _, _, .cons _ t => congrArg (· + 1) (dt_len t)
theorem dt_any {K : PySem.W.Frag} {B : Hp} {k : List Key} : ∀ {kvs : List (List Key × V)} {ks : List (D × D)}, DtAll K B kvs ks → (ks.any fun e => decide (unT e.1 = some k)) = kvs.any fun kv => decide (kv.1 = k)
  | _, _, .nil => rfl
  | _, _, .cons (k := k') h t => by
    rw [List.any_cons, List.any_cons, dt_any t]
    congr 1
    show decide (unT (.tuple (k'.map keyD)) = some k) = decide (k' = k)
    rw [unT_key]
    exact decide_eq_decide.mpr ⟨fun z => Option.some.inj z, fun z => by rw [z]⟩
theorem dt_map {K : PySem.W.Frag} {B : Hp} {k : List Key} {v : V} {d : D} (hd : Dp K B v d) : ∀ {kvs : List (List Key × V)} {ks : List (D × D)}, DtAll K B kvs ks → DtAll K B (kvs.map fun kv => if kv.1 = k then (kv.1, v) else kv) (ks.map fun e => if unT e.1 = some k then (e.1, d) else e)
  | _, _, .nil => .nil
  | _, _, .cons (k := k') (v := v') (d := d') h t => by
    rw [List.map_cons, List.map_cons]
    have e1 : (unT (.tuple (k'.map keyD)) = some k) = (k' = k) := by
      rw [unT_key]
      exact propext ⟨fun z => Option.some.inj z, fun z => by rw [z]⟩
    by_cases e : k' = k
    · rw [if_pos e, if_pos (show unT (.tuple (k'.map keyD)) = some k from by rw [e1]; exact e)]
      exact .cons hd (dt_map hd t)
    · rw [if_neg e, if_neg (show ¬ unT (.tuple (k'.map keyD)) = some k from by rw [e1]; exact e)]
      exact .cons h (dt_map hd t)
theorem dt_snoc {K : PySem.W.Frag} {B : Hp} {k : List Key} {v : V} {d : D} (hd : Dp K B v d) : ∀ {kvs : List (List Key × V)} {ks : List (D × D)}, DtAll K B kvs ks → DtAll K B (kvs ++ [(k, v)]) (ks ++ [(.tuple (k.map keyD), d)])
  | _, _, .nil => .cons hd .nil
  | _, _, .cons h t => .cons h (dt_snoc hd t)
theorem dt_put {K : PySem.W.Frag} {B : Hp} {k : List Key} {v : V} {d : D} {kvs : List (List Key × V)} {ks : List (D × D)} (hd : Dp K B v d) (h : DtAll K B kvs ks) : DtAll K B (putK kvs k v) (putT ks k d) := by
  unfold putK putT
  rw [dt_any h]
  split
  · exact dt_map hd h
  · exact dt_snoc hd h

/-! ### operations -/
def fDct : FE := fun s => .ok (.tmpd []) s
section
variable {X : Cx} {p : Pr} {W : WX} {f g : FE} {a b e : Expr} {pos : Pos}
theorem de_dctT : PE X (.Dict [] [] pos) (tE p W fDct) := PE.imp pe_dnewT fun σ H Q h => by
  obtain ⟨B, s, ok, q⟩ := h
  intro l n
  exact q B (upd H l (.dT [])) (.newH n) (ok.newH n fun _ z => nomatch z) _ ⟨l, _, rfl, n, upd_same, ok.bh.free n, .t .nil, ok.notOwn n⟩
/-- d[k], k in d -/
def hDIx : D → D → Option PO
  | .dict ks, k => match unT k with
    | some kk => (valT ks kk).map PO.val
    | none => none
  | _, _ => none
def isKd : List (D × D) → Bool
  | [(.none, .dict _)] => true
  | _ => false
def hDIn (n : Bool) : D → D → Option PO
  | k, .dict ks => if isKd ks then none else match unT k with
    | some kk => some (.val (.bool (if n then !(valT ks kk).isSome else (valT ks kk).isSome)))
    | none => none
  | _, _ => none
def rDGet : R2 := fun x y H Q => ∃ a v, x = .ref a ∧ DGet H a y (some v) ∧ Q v H
def rDIn (n : Bool) : R2 := fun y x H Q => ∃ a o, x = .ref a ∧ DGet H a y o ∧ Q (.bl (if n then !o.isSome else o.isSome)) H
theorem key_tup {K : PySem.W.Frag} {B H : Hp} {w : V} {k : D} {kk : List Key} (bh : Same B H) (h : Vw K B H w k) (e : unT k = some kk) : ∃ b, w = .ref b ∧ H b = some (.tup (kk.map kV)) := by
  rw [unT_eq e] at h
  rcases h with h | ⟨_, _, _, _, z, _⟩ | ⟨_, _, _, _, z, _⟩
  · cases h with
    | tup h1 h2 =>
      rw [keys_vs h2] at h1
      exact ⟨_, rfl, bh _ _ h1⟩
  · cases z
  · cases z
theorem dt_of {K : PySem.W.Frag} {B : Hp} {u : HO} {ks : List (D × D)} (h : DcOk K B u ks) (n : isKd ks = false) : ∃ kvs, u = .dT kvs ∧ DtAll K B kvs ks := by
  cases h with
  | k _ => cases n
  | t h => exact ⟨_, rfl, h⟩
theorem valT_kd {ks : List (D × D)} {kk : List Key} {d : D} (h : valT ks kk = some d) : isKd ks = false := by
  unfold isKd
  split
  · exact absurd h (by intro z; cases z)
  · rfl
theorem pr_dix {K : PySem.W.Frag} : Prim2 K rDGet hDIx := by
  intro B H v w d e o Q bh hv hw he hq
  unfold hDIx at he
  split at he
  · rename_i ks
    split at he
    · rename_i kk ek
      cases ev : valT ks kk with
      | none =>
        rw [ev] at he
        cases he
      | some x =>
        rw [ev] at he
        cases he
        obtain ⟨a, u, rfl, h1, h2⟩ := hv.dict bh
        obtain ⟨kvs, rfl, h3⟩ := dt_of h2 (valT_kd ev)
        obtain ⟨b, rfl, h4⟩ := key_tup bh hw ek
        have q := valT_ok (k := kk) h3
        rw [ev] at q
        obtain ⟨y, y1, y2⟩ := q
        exact ⟨a, y, rfl, .inr ⟨kvs, kk, b, h1, rfl, h4, y1.symm⟩, hq y y2⟩
    · cases he
  · cases he
theorem pr_din {K : PySem.W.Frag} {n : Bool} : Prim2 K (rDIn n) (hDIn n) := by
  intro B H v w d e o Q bh hv hw he hq
  unfold hDIn at he
  split at he
  · rename_i ks
    split at he
    · cases he
    · rename_i hk
      split at he
      · rename_i kk ek
        cases he
        obtain ⟨a, u, rfl, h1, h2⟩ := hw.dict bh
        obtain ⟨kvs, rfl, h3⟩ := dt_of h2 (by simpa using hk)
        obtain ⟨b, rfl, h4⟩ := key_tup bh hv ek
        have q := valT_ok (k := kk) h3
        refine ⟨a, valV kvs kk, rfl, .inr ⟨kvs, kk, b, h1, rfl, h4, rfl⟩, ?_⟩
        have e : (valV kvs kk).isSome = (valT ks kk).isSome := by
          cases ev : valT ks kk with
          | none =>
            rw [ev] at q
            rw [q]
            rfl
          | some x =>
            rw [ev] at q
            obtain ⟨y, y1, _⟩ := q
            rw [y1]
            rfl
        rw [e]
        exact hq _ (.bl _)
      · cases he
  · cases he
theorem de_dix (hu : X.A.units + 1 < cLine) (ha : PE X a (tE p W f)) (hb : PE X b (tE p W g)) (hs : NoSl b) : PE X (.Subscript a b pos) (tE p W (f2 hDIx f g)) := PE.imp (pe_dget hu ha hb hs) fun σ H Q q => t2_of pr_dix q
theorem de_din (hu : X.A.units + 1 < cLine) (ha : PE X a (tE p W f)) (hb : PE X b (tE p W g)) (hm : behindInMarks .In b = false) : PE X (.Compare a [.In] [b] pos) (tE p W (f2 (hDIn false) f g)) := PE.imp (pe_cmp (pc_din hu ha hb) hm) fun σ H Q q => t2_of (pr_din (n := false)) q
theorem de_dnotin (hu : X.A.units + 1 < cLine) (ha : PE X a (tE p W f)) (hb : PE X b (tE p W g)) (hm : behindInMarks .NotIn b = false) : PE X (.Compare a [.NotIn] [b] pos) (tE p W (f2 (hDIn true) f g)) := PE.imp (pe_cmp (pc_dnotin hu ha hb) hm) fun σ H Q q => t2_of (pr_din (n := true)) q
theorem dt_din (hu : X.A.units + 1 < cLine) (ha : PE X a (tE p W f)) (hb : PE X b (tE p W g)) (hm : behindInMarks .In b = false) : PT X (.Compare a [.In] [b] pos) (tT p W (fTr (f2 (hDIn false) f g))) := PT.imp (pt_cmp (pc_din hu ha hb) hm) fun σ H Q q => t2_of (pr_din (n := false)) (tr_of q)
theorem dt_dnotin (hu : X.A.units + 1 < cLine) (ha : PE X a (tE p W f)) (hb : PE X b (tE p W g)) (hm : behindInMarks .NotIn b = false) : PT X (.Compare a [.NotIn] [b] pos) (tT p W (fTr (f2 (hDIn true) f g))) := PT.imp (pt_cmp (pc_dnotin hu ha hb) hm) fun σ H Q q => t2_of (pr_din (n := true)) (tr_of q)
/-- d[k] = v -/
def fSubD (i : Nat) (fi f : FE) : FS := fun s => (fI f s).stm fun r s1 => match r, view s1 (.slot i) with
  | .imm d, some (.dict _) => (fi s1).stm fun r2 s2 => (match r2, getS s2 i with
    | .imm k, some (some (.dct ks)) => if isKd ks then .no else (match unT k with
      | some kk => if ks.length < mx then .nx (setS s2 i (some (.dct (putT ks kk d)))) else .no
      | none => .no)
    | _, _ => .no)
  | _, _ => .no
theorem slot_at {B H : Hp} {σ : St} {s : SD} {i : Nat} {d : D} (ok : StOk p B H σ s) (e : view s (.slot i) = some d) : ∃ a, σ[i]? = some (some (.ref a)) := by
  obtain ⟨x, q, m⟩ := view_mut e
  have hi := (List.getElem?_eq_some_iff.mp q).1
  have hσ : i < σ.length := by rw [ok.len]; exact hi
  have z := ok.slot i _ _ q (List.getElem?_eq_getElem hσ)
  match x, m, z with
  | .own _, _, ⟨_, a, _, e, _⟩ => exact ⟨a, by rw [List.getElem?_eq_getElem hσ, e]⟩
  | .lent _, _, ⟨a, _, _, e, _⟩ => exact ⟨a, by rw [List.getElem?_eq_getElem hσ, e]⟩
  | .dct _, _, ⟨_, a, _, e, _⟩ => exact ⟨a, by rw [List.getElem?_eq_getElem hσ, e]⟩
theorem ds_subD (i : Nat) {x : Str} {px ps : Pos} {ei : Expr} (hu : X.A.units + 1 < cLine) (he : PE X e (tE p W f)) (hi : PE X ei (tE p W g)) (hN : X.N[i]? = some x := by rfl) (hv : Vis X.env.scope x := by first | exact Or.inl rfl | exact Or.inr (Or.inl rfl) | exact Or.inr (Or.inr rfl))
    (hd : (x == ("__debug__" : Str)) = false := by decide) (hcd : (x == ("__classdict__" : Str)) = false := by decide)
    (hs : swapsWith e (some (.Subscript (.Name x px) ei ps)) pos.line X.env = pure false := by rfl) : PS X (.Assign [.Subscript (.Name x px) ei ps] e pos) (tS p W (fSubD i g f)) :=
  PS.imp (ps_dput hu (pe_var hN hv hd hcd) hi (de_imm he) hs) fun Dn σ H h => by
  obtain ⟨B, s, ok, h⟩ := h
  refine ⟨B, s, ok, run_mono (run_sat h) fun r s1 B1 H1 x1 ok1 k v hv => ?_⟩
  split at k
  rotate_left
  · exact k.elim
  rename_i d l ev
  obtain ⟨a, hσ⟩ := slot_at ok1 ev
  refine ⟨_, hσ, B1, s1, ok1, run_mono (run_sat k) fun r2 s2 B2 H2 x2 ok2 k2 w hw => ?_⟩
  split at k2
  rotate_left
  · exact k2.elim
  rename_i kd ks q
  split at k2
  · exact k2.elim
  rename_i hk
  split at k2
  rotate_left
  · exact k2.elim
  rename_i kk ek
  split at k2
  rotate_left
  · exact k2.elim
  rename_i hz
  rw [getS_eq] at q
  rw [setS_eq] at k2
  obtain ⟨l', a', u, ea, z, h1, h2, h3⟩ := ok2.slot i _ _ q hσ
  cases ea
  obtain ⟨kvs, rfl, h4⟩ := dt_of h3 (by simpa using hk)
  obtain ⟨b, rfl, h5⟩ := key_tup ok2.bh (.inl hw) ek
  have hdp : Dp p.K B2 v d := dp_same x2.bb _ _ hv
  have n4 : DtAll p.K B2 (putK kvs kk v) (putT ks kk d) := dt_put hdp h4
  refine ⟨a, upd H2 a (.dT (putK kvs kk v)), rfl, DPut.t h1 h5 (by rw [dt_len h4]; exact mx_lt (Nat.le_of_lt hz)), ?_⟩
  exact k2 σ B2 _ (Same.refl _) (upd_slot (dv' := .dct (putT ks kk d)) (u := .dT (putK kvs kk v)) ok2 q rfl rfl hσ (fun _ z => nomatch z) (.inl z) ⟨l', a, _, rfl, z, upd_same, h2, .t n4⟩).1
/-- for k in d, d standing still -/
def fItD (f : FE) : FI := fun s => (f s).bind fun r s1 => match r with
  | .imm (.dict ks) => if isKd ks then .no else .ok (ks.map (·.1)) s1
  | _ => .no
theorem dt_key {K : PySem.W.Frag} {B : Hp} {k : List Key} {v : V} {d : D} : ∀ {kvs : List (List Key × V)} {ks : List (D × D)} {i : Nat}, DtAll K B kvs ks → (ks.map (·.1))[i]? = some d → kvs[i]? = some (k, v) → d = .tuple (k.map keyD)
  | _, _, _, .nil, e, _ => by simp at e
  | _, _, 0, .cons _ _, e, e1 => by
    cases e
    cases e1
    rfl
  | _, _, i + 1, .cons _ t, e, e1 => dt_key (i := i) t (by simpa using e) (by simpa using e1)
theorem itd_keysT {K : PySem.W.Frag} {B : Hp} {a : Addr} {o : Obj} {kvs : List (List Key × V)} {ks : List (D × D)} (h : B a = some (.frz o (.dT kvs))) (hd : DtAll K B kvs ks) : ItD K B (Itkt a o kvs) (ks.map (·.1)) := fun B2 H2 b1 b2 tb => by
  have hs : H2 a = some (.frz o (.dT kvs)) := b2 _ _ (b1 _ _ h)
  refine ⟨⟨hs, by rw [List.length_map, dt_len hd]; exact Nat.le_refl _⟩, fun i d e => ?_⟩
  have hi : i < kvs.length := by
    have := (List.getElem?_eq_some_iff.mp e).1
    rw [List.length_map, ← dt_len hd] at this
    exact this
  refine ⟨⟨hs, hi⟩, fun x H3 y => ?_⟩
  obtain ⟨rfl, k, v, q, e1, rfl, e2⟩ := y
  have ed : d = .tuple (k.map keyD) := dt_key hd e e1
  subst ed
  exact ⟨B2, .refl b2, .tup (tb _ _ e2) (keys_dp k)⟩
theorem di_dict {tg : Expr} (ha : PE X e (tE p W f)) : PI X tg e (tI p W (fItD f)) := PI.imp (pi_keys ha) fun σ H Q h => by
  obtain ⟨B, s, ok, q⟩ := h
  refine ⟨B, s, ok, run_mono (run_bind q) fun r s1 B1 H1 x1 ok1 k v hv => ?_⟩
  split at k
  · rename_i ks
    split at k
    · exact k.elim
    · rename_i hk
      cases hv with
      | dic hb hc =>
        obtain ⟨kvs, rfl, h3⟩ := dt_of hc (by simpa using hk)
        exact ⟨_, _, rfl, .inr ⟨kvs, ok1.bh _ _ hb, k B1 H1 .refl ok1 _ (itd_keysT hb h3)⟩⟩
  · exact k.elim
end
end DL
end

set_option Elab.async false
set_option linter.all false
set_option maxRecDepth 100000
set_option maxHeartbeats 4000000
noncomputable section
namespace DL
open PySem PySem.Spec PyProof.Rows L2

/-! ### comprehensions with two clauses -/
def loopC2 (g : D → SD → Option SD) (cond : FT) (it1 : FI) (g1 : D → SD → Option SD) (cond1 : FT) (elt : FE) (vs vs1 : List Nat) : List D → SD → List D → R (List D)
  | [], s, acc => .ok acc s
  | d :: ds, s, acc => match g d s with
    | none => .no
    | some s1 => match cond s1 with
      | .ok true s2 => (match it1 s2 with
        | .ok es s3 => (match loopC g1 cond1 elt vs1 es (wipeD s3 vs1) acc with
          | .ok acc' s4 => loopC2 g cond it1 g1 cond1 elt vs vs1 ds (wipeD s4 vs) acc'
          | _ => .no)
        | _ => .no)
      | .ok false s2 => loopC2 g cond it1 g1 cond1 elt vs vs1 ds (wipeD s2 vs) acc
      | _ => .no
def fLc2 (it : FI) (vs : List Nat) (g : D → SD → Option SD) (cond : FT) (it1 : FI) (vs1 : List Nat) (g1 : D → SD → Option SD) (cond1 : FT) (elt : FE) : FE := fun s => (it s).bind fun ds s1 =>
  if vs.all (plainAt s1) then (match loopC2 g cond it1 g1 cond1 elt vs vs1 ds (wipeD s1 vs) [] with
    | .ok acc s2 => .ok (.tmp acc) (backD s1 s2 vs)
    | _ => .no) else .no
theorem wipe_wipe {σ : St} {vs vs1 : List Nat} (h : ∀ i ∈ vs1, i ∈ vs) : wipe (wipe σ vs1) vs = wipe σ vs := by
  refine List.ext_getElem? fun j => ?_
  rw [wipe_get, wipe_length, wipe_get (σ := σ) (vs := vs)]
  by_cases c : j ∈ vs ∧ j < σ.length
  · rw [if_pos c, if_pos c]
  · rw [if_neg c, if_neg c, wipe_get, if_neg (fun c1 => c ⟨h _ c1.1, c1.2⟩)]
theorem wipe_idem {σ : St} {vs : List Nat} : wipe (wipe σ vs) vs = wipe σ vs := wipe_wipe fun _ h => h
/-- from one state to a later one, slots given or wiped on the way -/
structure ExtX (σ : St) (s : SD) (σ' : St) (s' : SD) (B H B' H' : Hp) : Prop where
  bb : Same B B'
  hh : ∀ b o, H b = some o → (∀ i, ¬ Owns σ s i b) → H' b = some o
  dom : ∀ b, H' b = none → H b = none
  new : ∀ b, H b ≠ none → B b = none → B' b = none
  own : ∀ i a, Owns σ' s' i a → Owns σ s i a
theorem Ext.x {σ : St} {s s' : SD} {B H B' H' : Hp} (e : Ext σ s s' B H B' H') : ExtX σ s σ s' B H B' H' := ⟨e.bb, e.hh, e.dom, e.new, e.own⟩
theorem ExtX.trans {σ σ1 σ2 : St} {s s1 s2 : SD} {B H B1 H1 B2 H2 : Hp} (a : ExtX σ s σ1 s1 B H B1 H1) (b : ExtX σ1 s1 σ2 s2 B1 H1 B2 H2) : ExtX σ s σ2 s2 B H B2 H2 where
  bb := a.bb.trans b.bb
  hh := fun c o h n => b.hh c o (a.hh c o h n) fun i q => n i (a.own i c q)
  dom := fun c h => a.dom c (b.dom c h)
  new := fun c h n => b.new c (fun z => h (a.dom c z)) (a.new c h n)
  own := fun i c h => a.own i c (b.own i c h)
theorem ExtX.stay {σ σ' : St} {s s' : SD} {B H : Hp} (h : ∀ i a, Owns σ' s' i a → Owns σ s i a) : ExtX σ s σ' s' B H B H := ⟨Same.refl _, fun _ _ h _ => h, fun _ h => h, fun _ _ h => h, h⟩
/-- where a comprehension stands within: its list at D grows -/
structure Mid (p : Pr) (σ : St) (s0 : SD) (B0 H0 : Hp) (D : Addr) (σ' : St) (s : SD) (B H : Hp) (acc : List DL.D) (vacc : List V) : Prop where
  ext : ExtX σ s0 σ' s B0 H0 B H
  ok : StOk p B H σ' s
  hd : H D = some (.lst vacc)
  bd : B D = none
  da : DpAll p.K B vacc acc
  no : ∀ j, ¬ Owns σ' s j D
theorem Mid.step {p : Pr} {σ σ1 σ2 : St} {s0 s1 s2 : SD} {B0 H0 B1 H1 B2 H2 : Hp} {D : Addr} {acc : List DL.D} {vacc : List V} (m : Mid p σ s0 B0 H0 D σ1 s1 B1 H1 acc vacc) (e : ExtX σ1 s1 σ2 s2 B1 H1 B2 H2) (ok : StOk p B2 H2 σ2 s2) : Mid p σ s0 B0 H0 D σ2 s2 B2 H2 acc vacc :=
  ⟨m.ext.trans e, ok, e.hh _ _ m.hd m.no, e.new _ (by rw [m.hd]; exact fun z => nomatch z) m.bd, dps_same e.bb _ _ m.da, fun j o => m.no j (e.own j D o)⟩
theorem Mid.push {p : Pr} {σ σ1 : St} {s0 s1 : SD} {B0 H0 B1 H1 : Hp} {D : Addr} {acc : List DL.D} {vacc : List V} {d : DL.D} {y : V} (m : Mid p σ s0 B0 H0 D σ1 s1 B1 H1 acc vacc) (zD : p.Z D = none) (nD : H0 D = none) (hy : Dp p.K B1 y d) : Mid p σ s0 B0 H0 D σ1 s1 B1 (upd H1 D (.lst (vacc ++ [y]))) (acc ++ [d]) (vacc ++ [y]) :=
  ⟨⟨m.ext.bb, fun b o z n => by
    rw [upd_ne (fun w => by rw [w, nD] at z; cases z)]
    exact m.ext.hh b o z n, fun b z => m.ext.dom b (upd_none z), m.ext.new, m.ext.own⟩, m.ok.write zD m.bd m.no mutb_lst, upd_same, m.bd, dps_app m.da (.cons hy .nil), m.no⟩
section
variable {X : Cx} {p : Pr} {W : WX} {it it1 : FI} {is is1 vs vs1 : List Nat} {g g1 : D → SD → Option SD} {cond cond1 : FT} {fe : FE} {elt tg iter tg1 iter1 : Expr} {ifs ifs1 : List Expr} {scope : Scope} {own : List (Str × Nat)} {pos : Pos}
theorem lc2_of {σ : St} {H : Hp} {Q : VK} {t t1 : TG} (tq : TqD p t is g) (tq1 : TqD p t1 is1 g1)
    (hsub : ∀ i ∈ is, i ∈ vs) (hsub1 : ∀ i ∈ is1, i ∈ vs1) (hv : ∀ i ∈ vs1, i ∈ vs) (h : tE p W (fLc2 it vs g cond it1 vs1 g1 cond1 fe) σ H Q) : tLc2 (tI p W it) t (tT p WF cond) (tI p WF it1) t1 (tT p WF cond1) (tE p WF fe) vs vs1 σ H Q := by
  obtain ⟨B, s, ok, q⟩ := h
  refine ⟨B, s, ok, run_mono (run_bind q) fun ds s1 B1 H1 x1 ok1 k J hJ D nD => ?_⟩
  revert k
  by_cases hpl : vs.all (plainAt s1) = true
  rotate_left
  · rw [if_neg hpl]
    exact fun k => k.elim
  rw [if_pos hpl]
  cases eL : loopC2 g cond it1 g1 cond1 fe vs vs1 ds (wipeD s1 vs) [] with
  | no => exact fun k => k.elim
  | ex _ _ => exact fun k => k.elim
  | ok accF sF =>
    intro k
    have pl : ∀ v ∈ vs, p.L v = none ∧ ∀ a, ¬ Owns σ s1 v a := fun v hv => plain_L ok1 (List.all_eq_true.mp hpl v hv)
    have hL : ∀ v ∈ vs, p.L v = none := fun v hv => (pl v hv).1
    have hL1 : ∀ v ∈ vs1, p.L v = none := fun v h => hL v (hv v h)
    have okw : StOk p B1 H1 (wipe σ vs) (wipeD s1 vs) := wipe_ok ok1 hL
    have zD : p.Z D = none := okw.dom D nD
    let OI := fun (i : Nat) (H' : Hp) => ∃ B' s' acc vacc, Mid p (wipe σ vs) (wipeD s1 vs) B1 H1 D (wipe σ vs) s' B' H' acc vacc ∧ loopC2 g cond it1 g1 cond1 fe vs vs1 (ds.drop i) s' acc = .ok accF sF
    refine ⟨fun i m H' => m = ds.length - i ∧ i ≤ ds.length ∧ OI i H', ⟨ds.length, by simp, Nat.zero_le _, B1, wipeD s1 vs, [], [], ⟨(Ext.newH nD).x, okw.newH nD mutb_lst, upd_same, ok1.bh.free nD, .nil, okw.notOwn nD⟩, eL⟩, ?_⟩
    rintro i m H' ⟨rfl, hi, B', s', acc, vacc, md, el⟩
    obtain ⟨j1, j2⟩ := hJ B' H' md.ext.bb md.ok.bh md.ok.tb
    by_cases hlt : i < ds.length
    · have ed : ds[i]? = some ds[i] := List.getElem?_eq_getElem hlt
      obtain ⟨go, yl⟩ := j2 i _ ed
      rw [List.drop_eq_getElem_cons hlt] at el
      unfold loopC2 at el
      refine .inr ⟨go, OI (i + 1), fun H2 q => ⟨ds.length - (i + 1), by omega, rfl, hlt, q⟩, fun x H2 y => ?_⟩
      obtain ⟨B2, gr, hx⟩ := yl x H2 y
      cases eg : g ds[i] s' with
      | none =>
        rw [eg] at el
        cases el
      | some s2 =>
        rw [eg] at el
        refine tq.run B2 H2 (wipe σ vs) s' s2 x _ _ (md.ok.grows gr) hx eg fun us hus ok2 => ?_
        have ew : wipe (setsV (wipe σ vs) is us) vs = wipe σ vs := by rw [wipe_sets hsub, wipe_idem]
        have md2 : Mid p (wipe σ vs) (wipeD s1 vs) B1 H1 D (setsV (wipe σ vs) is us) s2 B2 H2 acc vacc := (md.step gr.ext.x (md.ok.grows gr)).step (ExtX.stay fun j a o => tq.own _ _ _ us _ j a hus eg o) ok2
        refine ⟨by rw [ew], B2, s2, ok2, ?_⟩
        -- a turn's end: the slots wiped again
        have back : ∀ {σ4 : St} {s4 : SD} {B4 H4 : Hp} {acc vacc}, wipe σ4 vs = wipe σ vs → Mid p (wipe σ vs) (wipeD s1 vs) B1 H1 D σ4 s4 B4 H4 acc vacc → Mid p (wipe σ vs) (wipeD s1 vs) B1 H1 D (wipe σ vs) (wipeD s4 vs) B4 H4 acc vacc := fun {σ4 s4 B4 H4 acc vacc} e m => by
          rw [← e]
          rw [← e] at m
          exact m.step (ExtX.stay fun j a o => owns_wipe m.ok.len o) (wipe_ok m.ok hL)
        dsimp only at el
        cases ec : cond s2 with
        | no =>
          rw [ec] at el
          cases el
        | ex _ _ =>
          rw [ec] at el
          cases el
        | ok b s3 =>
          rw [ec] at el
          cases b with
          | false =>
            dsimp only at el
            intro B3 H3 x3 ok3
            dsimp only
            rw [if_neg Bool.false_ne_true]
            exact ⟨B3, wipeD s3 vs, acc, vacc, back ew (md2.step x3.x ok3), el⟩
          | true =>
            dsimp only at el
            intro B3 H3 x3 ok3
            dsimp only
            rw [if_pos rfl]
            have md3 := md2.step x3.x ok3
            refine ⟨B3, s3, ok3, ?_⟩
            cases ei : it1 s3 with
            | no =>
              rw [ei] at el
              cases el
            | ex _ _ =>
              rw [ei] at el
              cases el
            | ok es s4 =>
              rw [ei] at el
              dsimp only at el
              intro B4 H4 x4 ok4 J1 hJ1
              have md4 := md3.step x4.x ok4
              cases eI : loopC g1 cond1 fe vs1 es (wipeD s4 vs1) acc with
              | no =>
                rw [eI] at el
                cases el
              | ex _ _ =>
                rw [eI] at el
                cases el
              | ok accI sI =>
                rw [eI] at el
                dsimp only at el
                obtain ⟨σ2, e2⟩ : ∃ σ2, σ2 = setsV (wipe σ vs) is us := ⟨_, rfl⟩
                rw [← e2] at ew md4 ok4 ⊢
                have md5 : Mid p (wipe σ vs) (wipeD s1 vs) B1 H1 D (wipe σ2 vs1) (wipeD s4 vs1) B4 H4 acc vacc := md4.step (ExtX.stay fun j a o => owns_wipe ok4.len o) (wipe_ok ok4 hL1)
                refine ⟨fun j m H => m = es.length - j ∧ j ≤ es.length ∧ ∃ B s acc vacc, Same B4 B ∧ Mid p (wipe σ vs) (wipeD s1 vs) B1 H1 D (wipe σ2 vs1) s B H acc vacc ∧ loopC g1 cond1 fe vs1 (es.drop j) s acc = .ok accI sI, ⟨es.length, by simp, Nat.zero_le _, B4, _, acc, vacc, Same.refl _, md5, eI⟩, ?_⟩
                rintro j m H5 ⟨rfl, hj, B5, s5, acc5, vacc5, bb5, md6, el5⟩
                obtain ⟨k1, k2⟩ := hJ1 B5 H5 bb5 md6.ok.bh md6.ok.tb
                by_cases hlt1 : j < es.length
                · have ed1 : es[j]? = some es[j] := List.getElem?_eq_getElem hlt1
                  obtain ⟨go1, yl1⟩ := k2 j _ ed1
                  rw [List.drop_eq_getElem_cons hlt1] at el5
                  rw [loopC_cons] at el5
                  refine .inr ⟨go1, fun H => ∃ B s acc vacc, Same B4 B ∧ Mid p (wipe σ vs) (wipeD s1 vs) B1 H1 D (wipe σ2 vs1) s B H acc vacc ∧ loopC g1 cond1 fe vs1 (es.drop (j + 1)) s acc = .ok accI sI, fun H2 q => ⟨es.length - (j + 1), by omega, rfl, hlt1, q⟩, fun x1 H6 y1 => ?_⟩
                  obtain ⟨B6, gr6, hx6⟩ := yl1 x1 H6 y1
                  cases eg1 : g1 es[j] s5 with
                  | none =>
                    rw [eg1] at el5
                    cases el5
                  | some s6 =>
                    rw [eg1] at el5
                    dsimp only at el5
                    refine tq1.run B6 H6 (wipe σ2 vs1) s5 s6 x1 _ _ (md6.ok.grows gr6) hx6 eg1 fun us1 hus1 ok6 => ?_
                    have ew1 : wipe (setsV (wipe σ2 vs1) is1 us1) vs1 = wipe σ2 vs1 := by rw [wipe_sets hsub1, wipe_idem]
                    have md7 : Mid p (wipe σ vs) (wipeD s1 vs) B1 H1 D (setsV (wipe σ2 vs1) is1 us1) s6 B6 H6 acc5 vacc5 := (md6.step gr6.ext.x (md6.ok.grows gr6)).step (ExtX.stay fun j a o => tq1.own _ _ _ us1 _ j a hus1 eg1 o) ok6
                    refine ⟨ew1, B6, s6, ok6, ?_⟩
                    have back1 : ∀ {s4 : SD} {B4 H4 : Hp} {acc vacc}, Mid p (wipe σ vs) (wipeD s1 vs) B1 H1 D (setsV (wipe σ2 vs1) is1 us1) s4 B4 H4 acc vacc → Mid p (wipe σ vs) (wipeD s1 vs) B1 H1 D (wipe σ2 vs1) (wipeD s4 vs1) B4 H4 acc vacc := fun {s4 B4 H4 acc vacc} m => by
                      have q := m.step (ExtX.stay fun j a o => owns_wipe m.ok.len o) (wipe_ok (vs := vs1) m.ok hL1)
                      rw [ew1] at q
                      exact q
                    cases ec1 : cond1 s6 with
                    | no =>
                      rw [ec1] at el5
                      cases el5
                    | ex _ _ =>
                      rw [ec1] at el5
                      cases el5
                    | ok b s7 =>
                      rw [ec1] at el5
                      cases b with
                      | false =>
                        dsimp only at el5
                        intro B7 H7 x7 ok7
                        dsimp only
                        rw [if_neg Bool.false_ne_true]
                        exact ⟨B7, wipeD s7 vs1, acc5, vacc5, (bb5.trans gr6.bb).trans x7.bb, back1 (md7.step x7.x ok7), el5⟩
                      | true =>
                        dsimp only at el5
                        intro B7 H7 x7 ok7
                        dsimp only
                        rw [if_pos rfl]
                        refine ⟨B7, s7, ok7, ?_⟩
                        cases ee : fe s7 with
                        | no =>
                          rw [ee] at el5
                          cases el5
                        | ex _ _ =>
                          rw [ee] at el5
                          cases el5
                        | ok r s8 =>
                          rw [ee] at el5
                          cases r with
                          | tmp _ => cases el5
                          | slot _ => cases el5
                          | tmpd _ => cases el5
                          | imm d =>
                            dsimp only at el5
                            intro B8 H8 x8 ok8 y hy
                            by_cases hacc : acc5.length < mx
                            rotate_left
                            · rw [if_neg hacc] at el5
                              cases el5
                            rw [if_pos hacc] at el5
                            have md8 := back1 ((md7.step x7.x ok7).step x8.x ok8)
                            exact ⟨vacc5, md8.hd, by rw [dps_len md8.da]; exact mx_lt (Nat.le_of_lt hacc), B8, wipeD s8 vs1, acc5 ++ [d], vacc5 ++ [y], ((bb5.trans gr6.bb).trans x7.bb).trans x8.bb, md8.push zD nD hy, el5⟩
                · have e : j = es.length := by omega
                  subst e
                  rw [List.drop_length] at el5
                  cases el5
                  refine .inl ⟨k1, B5, wipeD _ vs, _, _, back (by rw [wipe_wipe hv, ew]) md6, el⟩
    · have e : i = ds.length := by omega
      subst e
      rw [List.drop_length] at el
      cases el
      refine .inl ⟨j1, ?_⟩
      have x' := md.ext
      have ok' := md.ok
      have ob : ∀ j a, Owns σ (backD s1 sF vs) j a → j ∉ vs ∧ Owns (wipe σ vs) sF j a := fun j a o => by
        obtain ⟨o1, x, o2, m⟩ := o
        rw [backD_get] at o2
        by_cases c : j ∈ vs ∧ j < sF.length
        · rw [if_pos c] at o2
          have hj : j < s1.length := by rw [← ok1.len]; exact (List.getElem?_eq_some_iff.mp o1).1
          have eg : s1.getD j none = s1[j] := by simp [List.getD, hj]
          rw [eg] at o2
          exact absurd ⟨o1, x, by rw [List.getElem?_eq_getElem hj]; exact o2, m⟩ ((pl j c.1).2 a)
        · rw [if_neg c] at o2
          have hlF : j < sF.length := (List.getElem?_eq_some_iff.mp o2).1
          have nj : j ∉ vs := fun z => c ⟨z, hlF⟩
          refine ⟨nj, ?_, x, o2, m⟩
          rw [wipe_get, if_neg (fun z => nj z.1)]
          exact o1
      have e1 : s1.length = sF.length := by
        rw [← ok1.len, ← ok'.len, wipe_length]
      refine k B' H' ⟨x'.bb, fun b o z n => x'.hh b o z fun j q => n j (owns_wipe ok1.len q), x'.dom, x'.new, fun j a o => owns_wipe ok1.len (x'.own j a (ob j a o).2)⟩ ?_ _ ⟨D, vacc, rfl, x1.dom D nD, md.hd, md.bd, md.da, fun j o => md.no j (ob j D o).2⟩
      refine ⟨by rw [backD_len, ← e1]; exact ok1.len, fun j dv v e2 e3 => ?_, fun j l a o1 o2 => ok'.sep j l a (ob j a o1).2 (ob l a o2).2, ok'.b0, ok'.bh, ok'.fr, ok'.dom, ok'.new, ok'.tb⟩
      rw [backD_get] at e2
      by_cases c : j ∈ vs ∧ j < sF.length
      · rw [if_pos c] at e2
        have hj : j < s1.length := by rw [e1]; exact c.2
        have eg : s1.getD j none = s1[j] := by simp [List.getD, hj]
        rw [eg] at e2
        have z := ok1.slot j dv v (by rw [List.getElem?_eq_getElem hj]; exact e2) e3
        have np := (pl j c.1).2
        match dv, z, e2 with
        | none, z, _ => exact z
        | some (.imm d), ⟨l, x, e, r⟩, _ => exact ⟨l, x, e, dp_same x'.bb _ _ r⟩
        | some (.own xs), ⟨l, a, us, e, _⟩, e2 => exact absurd ⟨by rw [e3, e], _, by rw [List.getElem?_eq_getElem hj]; exact e2, rfl⟩ (np a)
        | some (.lent xs), ⟨a, us, l, e, _⟩, e2 => exact absurd ⟨by rw [e3, e], _, by rw [List.getElem?_eq_getElem hj]; exact e2, rfl⟩ (np a)
        | some .exc, z, _ => exact z
        | some (.dct ks), ⟨l, a, us, e, _⟩, e2 => exact absurd ⟨by rw [e3, e], _, by rw [List.getElem?_eq_getElem hj]; exact e2, rfl⟩ (np a)
      · rw [if_neg c] at e2
        have hlF := (List.getElem?_eq_some_iff.mp e2).1
        have nj : j ∉ vs := fun z => c ⟨z, hlF⟩
        exact ok'.slot j dv v e2 (by rw [wipe_get, if_neg (fun z => nj z.1)]; exact e3)
theorem de_lc2 {t t1 : TG} (hc : X.calm = true) (hN : X.N.Nodup) (hi : PI X tg iter (tI p W it)) (ok : BlkOk X.N X.env.scope scope own) (hv : ∀ i ∈ vs1, i ∈ own.map (·.2))
    (hg : ∀ (s : Shared) (H : Hp) (C : Addr) (cl : List (Str × Addr)) (fp : List Addr), PG (X.blk s H scope (compEnvC scope cl C X.env) fp) tg t) (tq : TqD p t is g) (ht : ∀ (s : Shared) (H : Hp) (C : Addr) (cl : List (Str × Addr)) (fp : List Addr), PTs (X.blk s H scope (compEnvC scope cl C X.env) fp) ifs (tT p WF cond))
    (hi1 : ∀ (s : Shared) (H : Hp) (C : Addr) (cl : List (Str × Addr)) (fp : List Addr), PI (X.blk s H scope (compEnvC scope cl C X.env) fp) tg1 iter1 (tI p WF it1))
    (hg1 : ∀ (s : Shared) (H : Hp) (C : Addr) (cl : List (Str × Addr)) (fp : List Addr), PG (X.blk s H scope (compEnvC scope cl C X.env) fp) tg1 t1) (tq1 : TqD p t1 is1 g1) (ht1 : ∀ (s : Shared) (H : Hp) (C : Addr) (cl : List (Str × Addr)) (fp : List Addr), PTs (X.blk s H scope (compEnvC scope cl C X.env) fp) ifs1 (tT p WF cond1))
    (he : ∀ (s : Shared) (H : Hp) (C : Addr) (cl : List (Str × Addr)) (fp : List Addr), PE (X.blk s H scope (compEnvC scope cl C X.env) fp) elt (tE p WF fe)) (hsub : ∀ i ∈ is, i ∈ own.map (·.2)) (hsub1 : ∀ i ∈ is1, i ∈ vs1) (hs : ∀ x, foldedSetIterable iter X.env x = pure x := by intro _; rfl) (hs1 : ∀ env x, foldedSetIterable iter1 env x = pure x := by intro _ _; rfl) :
    PE X (.ListComp elt [⟨tg, iter, ifs, 0⟩, ⟨tg1, iter1, ifs1, 0⟩] scope pos) (tE p W (fLc2 it (own.map (·.2)) g cond it1 vs1 g1 cond1 fe)) :=
  PE.imp (pe_lc2 hc hN hi ok hv hg ht hi1 hg1 ht1 he hs hs1) fun σ H Q h => lc2_of tq tq1 hsub hsub1 hv h
end
end DL
end

set_option Elab.async false
set_option linter.all false
set_option maxRecDepth 100000
set_option maxHeartbeats 4000000
noncomputable section
namespace DL
open PySem PySem.Spec PyProof.Rows L2

/-! ### is not True -/
def hNotB : D → D → Option PO
  | .bool a, .bool b => some (.val (.bool (!decide (a = b))))
  | _, _ => none
theorem pr_notB {K : PySem.W.Frag} : Prim2 K rNotB hNotB := by
  intro B H v w d e o Q bh hv hw he hq
  unfold hNotB at he
  split at he
  · cases he
    exact ⟨_, _, hv.bool, hw.bool, hq _ (.bl _)⟩
  · cases he

/-! ### str(i) -/
def hStr : List D → Option PO
  | [.int i] => if i.natAbs < 1000000000000000000000000000000000000000000000000000000000000 then some (.val (.str (toString i))) else none
  | _ => none
theorem pr_str {K : PySem.W.Frag} : PrimOk K (fun xs H Q => ∃ i, xs = [V.int i] ∧ i.natAbs.log2 < 1920 ∧ Q (.str (toString i)) H) hStr := by
  intro B H vs ds o Q bh hv he hq
  unfold hStr at he
  split at he
  · split at he
    · rename_i i hz
      cases he
      obtain ⟨v, rfl, h⟩ := vs1 hv
      refine ⟨i, by rw [h.int], ?_, hq _ (.str _)⟩
      by_cases h0 : i.natAbs = 0
      · rw [h0]
        decide
      · have : i.natAbs < 2 ^ 1920 := Nat.lt_of_lt_of_le hz (by decide +kernel)
        exact (Nat.log2_lt h0).mpr this
    · cases he
  · cases he

/-! ### zip -/
def zipD : List D → List D → List D
  | x :: xs, y :: ys => .tuple [x, y] :: zipD xs ys
  | _, _ => []
theorem zipD_len : ∀ xs ys : List D, (zipD xs ys).length = min xs.length ys.length
  | [], ys => by simp [zipD]
  | _ :: _, [] => by simp [zipD]
  | x :: xs, y :: ys => by
    show (zipD xs ys).length + 1 = _
    rw [zipD_len xs ys, List.length_cons, List.length_cons]
    omega
theorem zipD_get : ∀ {xs ys : List D} {i : Nat} {d : D}, (zipD xs ys)[i]? = some d → ∃ x y, xs[i]? = some x ∧ ys[i]? = some y ∧ d = .tuple [x, y]
  | [], _, _, _, h => by simp [zipD] at h
  | _ :: _, [], _, _, h => by simp [zipD] at h
  | x :: xs, y :: ys, 0, d, h => by
    cases h
    exact ⟨x, y, rfl, rfl, rfl⟩
  | x :: xs, y :: ys, i + 1, d, h => zipD_get (xs := xs) (ys := ys) (i := i) h
theorem itd_zip {K : PySem.W.Frag} {B : Hp} {a b : Addr} {vs ws : List V} {ds es : List D} (h : SqL K B a vs) (hd : DpAll K B vs ds) (h' : SqL K B b ws) (hd' : DpAll K B ws es) : ItD K B (Itz K a b) (zipD ds es) := fun B2 H2 b1 b2 tb => by
  have hs : SqL K H2 a vs := sqL_same b2 (sqL_same b1 h)
  have hs' : SqL K H2 b ws := sqL_same b2 (sqL_same b1 h')
  refine ⟨⟨vs, ws, hs, hs', ?_⟩, fun i d e => ?_⟩
  · rw [zipD_len, dps_len hd, dps_len hd']
    omega
  obtain ⟨x, y, e1, e2, rfl⟩ := zipD_get e
  obtain ⟨v, hv, hx⟩ := dps_get hd e1
  obtain ⟨w, hw, hy⟩ := dps_get hd' e2
  refine ⟨⟨vs, ws, v, w, hs, hs', hv, hw⟩, fun z H3 q => ?_⟩
  obtain ⟨T, x', y', rfl, hT, rfl, q1, q2⟩ := q
  have ex : v = x' := Option.some.inj (hv.symm.trans (q1 vs hs))
  have ey : w = y' := Option.some.inj (hw.symm.trans (q2 ws hs'))
  subst ex
  subst ey
  have hT2 : B2 T = none := b2.free hT
  refine ⟨upd B2 T (.tup [v, w]), .newB b2 hT, ?_⟩
  exact .tup upd_same (.cons (dp_same (b1.trans (same_upd hT2)) _ _ hx) (.cons (dp_same (b1.trans (same_upd hT2)) _ _ hy) .nil))
def fZip (f : FA) : FI := fun s => (f s).bind fun rs s1 => match rs with
  | [.imm (.list ds), .imm (.list es)] => .ok (zipD ds es) s1
  | _ => .no
section
variable {X : Cx} {p : Pr} {W : WX} {f g : FE} {fa : FA} {a b c e e2 tg : Expr} {pos pp tpos : Pos} {elts : List Expr} {kk : Nat}
theorem di_zip (hg : Gl X "zip") (hm : X.mg "zip" = none) (ha : PA X [e, e2] (tA p W fa)) (eK : p.K = X.K := by rfl) (hs : starEach [e, e2] X.env = (false, eval e X.env) :: starEach [e2] X.env := by rfl) (hpl : (backTo pos (starEach [e2] X.env)).any (·.1) = false := by rfl) :
    PI X (.Tuple elts kk tpos) (.Call (.Name "zip" pp) [e, e2] [] pos) (tI p W (fZip fa)) := PI.imp (pi_zip hg hm ha hs hpl) fun σ H Q h => by
  obtain ⟨B, s, ok, q⟩ := h
  refine ⟨B, s, ok, run_mono (run_bind q) fun rs s1 B1 H1 x1 ok1 k vs hv => ?_⟩
  split at k
  · rename_i ds es
    cases hv with
    | cons h t =>
      cases t with
      | cons h' t' =>
        cases t'
        cases h with
        | lst hs hd =>
          cases h' with
          | lst hs' hd' => exact ⟨_, _, _, _, rfl, by rw [← eK]; exact sqL_same ok1.bh hs, by rw [← eK]; exact sqL_same ok1.bh hs', k B1 H1 .refl ok1 _ (by rw [← eK]; exact itd_zip hs hd hs' hd')⟩
  · exact k.elim

/-! ### range downwards -/
def rgDown (lo : Int) : Nat → List D
  | 0 => []
  | n + 1 => .int lo :: rgDown (lo - 1) n
theorem rgDown_len : ∀ (n : Nat) (lo : Int), (rgDown lo n).length = n
  | 0, _ => rfl
  | n + 1, lo => congrArg (· + 1) (rgDown_len n (lo - 1))
theorem rgDown_get : ∀ (n : Nat) (lo : Int) (i : Nat) (d : D), (rgDown lo n)[i]? = some d → d = .int (lo - i)
  | 0, _, _, _, h => by simp [rgDown] at h
  | n + 1, lo, 0, d, h => by
    cases h
    simp
  | n + 1, lo, i + 1, d, h => by
    rw [rgDown_get n (lo - 1) i d h]
    congr 1
    omega
theorem itd_down {K : PySem.W.Frag} {B : Hp} (lo : Int) (n : Nat) : ItD K B (Itc lo (-1) n) (rgDown lo n) := fun B2 H2 b1 b2 tb => by
  refine ⟨by rw [rgDown_len]; exact Nat.le_refl _, fun i d e => ?_⟩
  have hi := (List.getElem?_eq_some_iff.mp e).1
  rw [rgDown_len] at hi
  refine ⟨hi, fun x H3 y => ?_⟩
  obtain ⟨rfl, rfl⟩ := y
  rw [rgDown_get n lo i d e]
  have : lo + (i : Nat) * (-1 : Int) = lo - i := by omega
  rw [this]
  exact ⟨B2, .refl b2, .int _⟩
/-- range(a, b, -1) -/
def fRngD (f : FA) : FI := fun s => (f s).bind fun rs s1 => match rs with
  | [.imm (.int i), .imm (.int j), .imm (.int c)] => if c = -1 then (if bnd62 i && bnd62 j then .ok (rgDown i (i - j).toNat) s1 else .no) else .no
  | _ => .no
theorem di_rngD (hg : Gl X "range") (hm : X.mg "range" = none) (ha : PA X [a, b, c] (tA p W fa)) (hs : starEach [a, b, c] X.env = (false, eval a X.env) :: starEach [b, c] X.env := by rfl) (hpl : (backTo pos (starEach [b, c] X.env)).any (·.1) = false := by rfl) : PI X tg (.Call (.Name "range" pp) [a, b, c] [] pos) (tI p W (fRngD fa)) := PI.imp (pi_range3 hg hm ha hs hpl) fun σ H Q h => by
  obtain ⟨B, s, ok, q⟩ := h
  refine ⟨B, s, ok, run_mono (run_bind q) fun rs s1 B1 H1 x1 ok1 k vs hv => ?_⟩
  split at k
  · rename_i i j c
    split at k
    · rename_i hc
      subst hc
      split at k
      · rename_i hb
        rw [Bool.and_eq_true] at hb
        cases hv with
        | cons h1 t =>
          cases t with
          | cons h2 t =>
            cases t with
            | cons h3 t =>
              cases t
              cases h1
              cases h2
              cases h3
              obtain ⟨g1, g2⟩ := bnd62_ok hb.1
              obtain ⟨g3, g4⟩ := bnd62_ok hb.2
              exact ⟨i, j, -1, _, rfl, RgC.neg g1 g2 g3 g4, k B1 H1 .refl ok1 _ (itd_down _ _)⟩
      · exact k.elim
    · exact k.elim
  · exact k.elim

/-! ### xs[::-1] -/
def fRevL (f : FE) : FE := fun s => (f s).bind fun r s1 => match view s1 r with
  | some (.list xs) => .ok (.tmp xs.reverse) s1
  | _ => .no
theorem dps_rev {K : PySem.W.Frag} {B : Hp} : ∀ {vs : List V} {ds : List D}, DpAll K B vs ds → DpAll K B vs.reverse ds.reverse
  | _, _, .nil => .nil
  | _, _, .cons h t => by
    rw [List.reverse_cons, List.reverse_cons]
    exact dps_app (dps_rev t) (.cons h .nil)
theorem de_revL {k : Nat} {p1 p2 p3 : Pos} (ha : PE X e (tE p W f)) (eK : p.K = X.K := by rfl) : PE X (.Subscript e (.Slice none none (some (.UnaryOp .USub (.Constant (.int 1) k p1) p2)) p3) pos) (tE p W (fRevL f)) := PE.imp (pe_revL ha) fun σ H Q h => by
  obtain ⟨B, s, ok, q⟩ := h
  refine ⟨B, s, ok, run_mono (run_bind q) fun r s1 B1 H1 x1 ok1 k v hv => ?_⟩
  split at k
  · rename_i xs ev
    obtain ⟨a, vs, rfl, h1, h2⟩ := (vw_of hv ok1 ev).list ok1.bh
    refine ⟨a, vs, rfl, by rw [← eK]; exact h1, fun q n => ?_⟩
    exact k B1 (upd H1 q (.lst vs.reverse)) (.newH n) (ok1.newH n mutb_lst) _ ⟨q, _, rfl, x1.dom _ n, upd_same, ok1.bh.free n, dps_rev h2, ok1.notOwn n⟩
  · exact k.elim

/-! ### xs.pop() -/
def lastD (xs : List D) : Option D := xs[xs.length - 1]?
def fPop (i : Nat) : FE := fun s => match getS s i with
  | some (some (.own xs)) => (match lastD xs with
    | some d => .ok (.imm d) (setS s i (some (.own xs.dropLast)))
    | none => .no)
  | _ => .no
theorem dps_dropLast {K : PySem.W.Frag} {B : Hp} {vs : List V} {ds : List D} (h : DpAll K B vs ds) : DpAll K B vs.dropLast ds.dropLast := by
  rw [List.dropLast_eq_take, List.dropLast_eq_take, dps_len h]
  exact dps_take _ h
theorem de_pop (i : Nat) {x : Str} {px pa pc : Pos} (hN : X.N[i]? = some x := by rfl) (hv : Vis X.env.scope x := by first | exact Or.inl rfl | exact Or.inr (Or.inl rfl) | exact Or.inr (Or.inr rfl))
    (hd : (x == ("__debug__" : Str)) = false := by decide) (hcd : (x == ("__classdict__" : Str)) = false := by decide)
    (ht : PE X (.Call (.Attribute (.Name x px) "pop" pa) [] [] pc) (tBM0 X.K "list" rPop (tVar i))) : PE X (.Call (.Attribute (.Name x px) "pop" pa) [] [] pc) (tE p W (fPop i)) := PE.imp ht fun σ H Q h => by
  obtain ⟨B, s, ok, q⟩ := h
  unfold fPop at q
  rw [getS_eq] at q
  simp only [setS_eq] at q
  split at q
  · rename_i xs e
    have hi := (List.getElem?_eq_some_iff.mp e).1
    have hσ : i < σ.length := by rw [ok.len]; exact hi
    obtain ⟨l, a, vs, ev, hz, h1, h2, h3⟩ := ok.slot i _ _ e (List.getElem?_eq_getElem hσ)
    have ha : σ[i]? = some (some (.ref a)) := by rw [List.getElem?_eq_getElem hσ, ev]
    cases el : lastD xs with
    | none =>
      rw [el] at q
      exact q.elim
    | some d =>
      rw [el] at q
      obtain ⟨y, hy, hyd⟩ := dps_get h3 el
      refine ⟨_, ha, .inl ⟨rfl, _, .inl (.inl h1)⟩, a, vs, y, rfl, rfl, h1, by rw [dps_len h3]; exact hy, ?_⟩
      obtain ⟨ok2, ow⟩ := upd_slot (dv' := .own xs.dropLast) (u := .lst vs.dropLast) ok e rfl rfl ha mutb_lst (.inl hz) ⟨l, a, _, rfl, hz, upd_same, h2, dps_dropLast h3⟩
      refine q B (upd H a (.lst vs.dropLast)) ⟨Same.refl _, fun b o z n => ?_, fun b z => upd_none z, fun b _ z => z, ow⟩ ok2 y hyd
      rw [upd_ne (fun w => n i (by rw [w]; exact ⟨ha, _, e, rfl⟩))]
      exact z
  · exact q.elim

/-! ### a, b, c = x, y, z -/
def isSlot : RV → Bool
  | .slot _ => true
  | _ => false
theorem owns_setAny {σ : St} {s s' : SD} {i j : Nat} {dv : DV} {v : V} {c : Addr} (e : setD s i dv = some s') (h : Owns (σ.set i (some v)) s' j c) : Owns σ s j c ∨ (v = .ref c ∧ dv.mut = true) := by
  unfold setD at e
  rw [getS_eq] at e
  simp only [setS_eq] at e
  split at e
  · cases e
  · cases e
    obtain ⟨o1, x, o2, m⟩ := h
    by_cases ej : i = j
    · subst ej
      rw [List.getElem?_set_self (by have := (List.getElem?_eq_some_iff.mp o1).1; simpa using this)] at o1
      rw [List.getElem?_set_self (by have := (List.getElem?_eq_some_iff.mp o2).1; simpa using this)] at o2
      cases o1
      cases o2
      exact .inr ⟨rfl, m⟩
    · rw [List.getElem?_set_ne ej] at o1 o2
      exact .inl ⟨o1, x, o2, m⟩
  · cases e
theorem setM_ok {H0 B H : Hp} {σ : St} {s s' : SD} {i : Nat} {m : Bool} {r : RV} {v : V} (ok : StOk p B H σ s) (d0 : ∀ b, H0 b = none → p.Z b = none) (hv : RvOk p H0 σ s B H v r) (e : setM m s i r = some s') :
    StOk p B H (σ.set i (some v)) s' ∧ ∀ j c, Owns (σ.set i (some v)) s' j c → Owns σ s j c ∨ (v = .ref c ∧ ∀ d, r ≠ .imm d) := by
  cases r with
  | slot _ => cases e
  | imm d =>
    cases m with
    | true => cases e
    | false =>
      refine ⟨setD_imm ok hv e, fun j c o => ?_⟩
      rcases owns_setAny e o with o | ⟨_, o⟩
      · exact .inl o
      · cases o
  | tmp xs =>
    cases m with
    | false => cases e
    | true =>
      obtain ⟨a, vs, rfl, h0, h1, h2, h3, h4⟩ := hv
      refine ⟨setD_own (dv := .own xs) ok h4 (fun l => ⟨l, a, vs, rfl, d0 a h0, h1, h2, h3⟩) e, fun j c o => ?_⟩
      rcases owns_setAny e o with o | ⟨o, _⟩
      · exact .inl o
      · exact .inr ⟨o, fun _ z => nomatch z⟩
  | tmpd xs =>
    cases m with
    | false => cases e
    | true =>
      obtain ⟨a, vs, rfl, h0, h1, h2, h3, h4⟩ := hv
      refine ⟨setD_own (dv := .dct xs) ok h4 (fun l => ⟨l, a, vs, rfl, d0 a h0, h1, h2, h3⟩) e, fun j c o => ?_⟩
      rcases owns_setAny e o with o | ⟨o, _⟩
      · exact .inl o
      · exact .inr ⟨o, fun _ z => nomatch z⟩
/-- a new thing stays new when another one is given to a slot -/
theorem RvOk.set {H0 H1 B H : Hp} {σ : St} {s s' : SD} {i : Nat} {m : Bool} {r q : RV} {v w : V} (hv : RvOk p H0 σ s B H v r) (hv1 : ∀ c, v = .ref c → (∀ d, r ≠ .imm d) → H1 c ≠ none) (hw : RvOk p H1 σ s B H w q) (hq : isSlot q = false)
    (ow : ∀ j c, Owns (σ.set i (some v)) s' j c → Owns σ s j c ∨ (v = .ref c ∧ ∀ d, r ≠ .imm d)) : RvOk p H1 (σ.set i (some v)) s' B H w q := by
  cases q with
  | slot _ => cases hq
  | imm d => exact hw
  | tmp xs =>
    obtain ⟨a, vs, rfl, h0, h1, h2, h3, h4⟩ := hw
    refine ⟨a, vs, rfl, h0, h1, h2, h3, fun k o => ?_⟩
    rcases ow k a o with o | ⟨o, z⟩
    · exact h4 k o
    · exact hv1 a o z h0
  | tmpd xs =>
    obtain ⟨a, vs, rfl, h0, h1, h2, h3, h4⟩ := hw
    refine ⟨a, vs, rfl, h0, h1, h2, h3, fun k o => ?_⟩
    rcases ow k a o with o | ⟨o, z⟩
    · exact h4 k o
    · exact hv1 a o z h0
theorem RvOk.there {H0 B H : Hp} {σ : St} {s : SD} {r : RV} {v : V} (hv : RvOk p H0 σ s B H v r) (hr : isSlot r = false) (c : Addr) (e : v = .ref c) (n : ∀ d, r ≠ .imm d) : H c ≠ none := by
  cases r with
  | slot _ => cases hr
  | imm d => exact absurd rfl (n d)
  | tmp xs =>
    obtain ⟨a, vs, rfl, h0, h1, _⟩ := hv
    cases e
    rw [h1]
    exact fun z => nomatch z
  | tmpd xs =>
    obtain ⟨a, vs, rfl, h0, h1, _⟩ := hv
    cases e
    rw [h1]
    exact fun z => nomatch z
def fPar3 (i j l : Nat) (m n o : Bool) (f g h : FE) : FS := fun s => (f s).stm fun r1 s1 => (g s1).stm fun r2 s2 => (h s2).stm fun r3 s3 =>
  if isSlot r1 || isSlot r2 || isSlot r3 then .no else (match setM m s3 i r1 with
    | some s4 => (match setM n s4 j r2 with
      | some s5 => (match setM o s5 l r3 with
        | some s6 => .nx s6
        | none => .no)
      | none => .no)
    | none => .no)
theorem ds_par3 (i j l : Nat) (m n o : Bool) {h : FE} {x y z : Str} {px py pz pt : Pos} {kt k2 pt2} (hc : X.calm = true) (hN : X.N.Nodup) (ha : PE X a (tE p W f)) (hb : PE X b (tE p W g)) (hcc : PE X c (tE p W h)) (hij : i ≠ j) (hil : i ≠ l) (hjl : j ≠ l) (hi : X.N[i]? = some x := by rfl) (hj : X.N[j]? = some y := by rfl) (hl : X.N[l]? = some z := by rfl)
    (hx : X.env.scope.names.lookup x = some .local := by rfl) (hy : X.env.scope.names.lookup y = some .local := by rfl) (hz : X.env.scope.names.lookup z = some .local := by rfl)
    (hw : swappedStores [.Tuple [.Name x px, .Name y py, .Name z pz] kt pt] (.Tuple [a, b, c] k2 pt2) X.env = pure (some [x, y, z]) := by rfl)
    (hs : swapsWithSole [.Tuple [.Name x px, .Name y py, .Name z pz] kt pt] (.Tuple [a, b, c] k2 pt2) pos.line X.env = pure false := by rfl)
    (h1 : starEach [a, b, c] X.env = (false, eval a X.env) :: starEach [b, c] X.env := by rfl) (h2 : starEach [b, c] X.env = (false, eval b X.env) :: starEach [c] X.env := by rfl) (h3 : starEach [c] X.env = (false, eval c X.env) :: starEach [] X.env := by rfl) :
    PS X (.Assign [.Tuple [.Name x px, .Name y py, .Name z pz] kt pt] (.Tuple [a, b, c] k2 pt2) pos) (tS p W (fPar3 i j l m n o f g h)) :=
  PS.imp (ps_par3 hc hN hi hj hl hij hil hjl hx hy hz (pa_cons ha (pa_cons hb (pa_cons hcc pa_nil h3) h2) h1) hw hs) fun Dn σ H q => by
  obtain ⟨B, s, ok, q⟩ := q
  refine ⟨B, s, ok, run_mono (run_sat q) fun r1 s1 B1 H1 x1 ok1 k1 v1 hv1 => ⟨B1, s1, ok1, run_mono (run_sat k1) fun r2 s2 B2 H2 x2 ok2 k2 v2 hv2 => ⟨B2, s2, ok2, run_mono (run_sat k2) fun r3 s3 B3 H3 x3 ok3 k3 v3 hv3 => ?_⟩⟩⟩
  refine ⟨v1, v2, v3, rfl, ?_⟩
  by_cases hsl : (isSlot r1 || isSlot r2 || isSlot r3) = true
  · rw [if_pos hsl] at k3
    exact k3.elim
  rw [if_neg hsl] at k3
  have hs1 : isSlot r1 = false := by
    cases e : isSlot r1 with
    | false => rfl
    | true => rw [e] at hsl; simp at hsl
  have hs2 : isSlot r2 = false := by
    cases e : isSlot r2 with
    | false => rfl
    | true => rw [e] at hsl; simp at hsl
  have hs3 : isSlot r3 = false := by
    cases e : isSlot r3 with
    | false => rfl
    | true => rw [e] at hsl; simp at hsl
  cases e1 : setM m s3 i r1 with
  | none =>
    rw [e1] at k3
    exact k3.elim
  | some s4 =>
    rw [e1] at k3
    dsimp only at k3
    cases e2 : setM n s4 j r2 with
    | none =>
      rw [e2] at k3
      exact k3.elim
    | some s5 =>
      rw [e2] at k3
      dsimp only at k3
      cases e3 : setM o s5 l r3 with
      | none =>
        rw [e3] at k3
        exact k3.elim
      | some s6 =>
        rw [e3] at k3
        have w1 := (hv1.later x2).later x3
        have w2 := hv2.later x3
        have t1 : ∀ c, v1 = .ref c → (∀ d, r1 ≠ .imm d) → H1 c ≠ none := hv1.there hs1
        have t2 : ∀ c, v2 = .ref c → (∀ d, r2 ≠ .imm d) → H2 c ≠ none := hv2.there hs2
        have t1' : ∀ c, v1 = .ref c → (∀ d, r1 ≠ .imm d) → H2 c ≠ none := fun c a b z => t1 c a b (x2.dom c z)
        obtain ⟨ok4, ow4⟩ := setM_ok ok3 ok.dom w1 e1
        have w2' := RvOk.set (m := m) w1 t1 w2 hs2 ow4
        have w3' := RvOk.set (m := m) w1 t1' hv3 hs3 ow4
        obtain ⟨ok5, ow5⟩ := setM_ok ok4 (fun b z => ok.dom b (x1.dom b z)) w2' e2
        have w3'' := RvOk.set (m := n) w2' t2 w3' hs3 ow5
        obtain ⟨ok6, _⟩ := setM_ok ok5 (fun b z => ok.dom b (x1.dom b (x2.dom b z))) w3'' e3
        exact k3 _ B3 H3 (Same.refl _) ok6
/-- the same of two names: both may be new things -/
def fPar2 (i j : Nat) (m n : Bool) (f g : FE) : FS := fun s => (f s).stm fun r1 s1 => (g s1).stm fun r2 s2 =>
  if isSlot r1 || isSlot r2 then .no else (match setM m s2 i r1 with
    | some s4 => (match setM n s4 j r2 with
      | some s5 => .nx s5
      | none => .no)
    | none => .no)
theorem ds_par2 (i j : Nat) (m n : Bool) {x y : Str} {px py pt : Pos} {kt k2 pt2} (hc : X.calm = true) (hN : X.N.Nodup) (ha : PE X a (tE p W f)) (hb : PE X b (tE p W g)) (hij : i ≠ j) (hi : X.N[i]? = some x := by rfl) (hj : X.N[j]? = some y := by rfl)
    (hx : X.env.scope.names.lookup x = some .local := by rfl) (hy : X.env.scope.names.lookup y = some .local := by rfl)
    (hw : swappedStores [.Tuple [.Name x px, .Name y py] kt pt] (.Tuple [a, b] k2 pt2) X.env = pure (some [x, y]) := by rfl)
    (hs : swapsWithSole [.Tuple [.Name x px, .Name y py] kt pt] (.Tuple [a, b] k2 pt2) pos.line X.env = pure false := by rfl)
    (h1 : starEach [a, b] X.env = (false, eval a X.env) :: starEach [b] X.env := by rfl) (h2 : starEach [b] X.env = (false, eval b X.env) :: starEach [] X.env := by rfl) :
    PS X (.Assign [.Tuple [.Name x px, .Name y py] kt pt] (.Tuple [a, b] k2 pt2) pos) (tS p W (fPar2 i j m n f g)) :=
  PS.imp (ps_par hc hN hi hj hij hx hy (pa_cons ha (pa_cons hb pa_nil h2) h1) hw hs) fun Dn σ H q => by
  obtain ⟨B, s, ok, q⟩ := q
  refine ⟨B, s, ok, run_mono (run_sat q) fun r1 s1 B1 H1 x1 ok1 k1 v1 hv1 => ⟨B1, s1, ok1, run_mono (run_sat k1) fun r2 s2 B2 H2 x2 ok2 k2 v2 hv2 => ?_⟩⟩
  refine ⟨v1, v2, rfl, ?_⟩
  by_cases hsl : (isSlot r1 || isSlot r2) = true
  · rw [if_pos hsl] at k2
    exact k2.elim
  rw [if_neg hsl] at k2
  have hs1 : isSlot r1 = false := by
    cases e : isSlot r1 with
    | false => rfl
    | true => rw [e] at hsl; simp at hsl
  have hs2 : isSlot r2 = false := by
    cases e : isSlot r2 with
    | false => rfl
    | true => rw [e] at hsl; simp at hsl
  cases e1 : setM m s2 i r1 with
  | none =>
    rw [e1] at k2
    exact k2.elim
  | some s4 =>
    rw [e1] at k2
    dsimp only at k2
    cases e2 : setM n s4 j r2 with
    | none =>
      rw [e2] at k2
      exact k2.elim
    | some s5 =>
      rw [e2] at k2
      have w1 := hv1.later x2
      have t1 : ∀ c, v1 = .ref c → (∀ d, r1 ≠ .imm d) → H1 c ≠ none := hv1.there hs1
      obtain ⟨ok4, ow4⟩ := setM_ok ok2 ok.dom w1 e1
      have w2' := RvOk.set (m := m) w1 t1 hv2 hs2 ow4
      obtain ⟨ok5, _⟩ := setM_ok ok4 (fun b z => ok.dom b (x1.dom b z)) w2' e2
      exact k2 _ B2 H2 (Same.refl _) ok5
end
end DL
end

set_option Elab.async false
set_option linter.all false
set_option maxRecDepth 100000
set_option maxHeartbeats 4000000
noncomputable section
namespace DL
open PySem PySem.Spec PyProof.Rows L2

/-! ### sorted(d) of a dict with tuple keys -/
def keyTs (kvs : List (List Key × V)) : List D := kvs.map fun e => .tuple (e.1.map keyD)
theorem keyTs_of {K : PySem.W.Frag} {B : Hp} : ∀ {kvs : List (List Key × V)} {ks : List (D × D)}, DtAll K B kvs ks → ks.map (·.1) = keyTs kvs
  | _, _, .nil => rfl
  | _, _, .cons h t => congrArg (_ :: ·) (keyTs_of t)
def rSortT (K : PySem.W.Frag) : List V → Hp → VK → Prop := fun xs H Q => ∃ (a : Addr) (kvs : List (List Key × V)) (B : Hp), xs = [.ref a] ∧ Rd H a (.dT kvs) ∧ Same B H ∧ (∀ b xs, H b = some (.tup xs) → B b = some (.tup xs)) ∧ okS (keyTs kvs) = true ∧
  ∀ p ys, H p = none → DpAll K B ys (sortD (keyTs kvs)) → Q (.ref p) (upd H p (.lst ys))
theorem each_keysT {K : PySem.W.Frag} {B H : Hp} (tb : ∀ b xs, H b = some (.tup xs) → B b = some (.tup xs)) : ∀ {kvs : List (List Key × V)} {bs : List Addr}, IsKeys H kvs bs → (∀ d ∈ keyTs kvs, noD d = true) → PySem.W.EachIs (fun v d => ∃ x, RelV x v ∧ Dp K B x d ∧ noD d = true) (bs.map Value.ref) (keyTs kvs) := by
  intro kvs bs h
  unfold IsKeys at h
  induction h with
  | nil => exact fun _ => .nil
  | cons h t ih => exact fun n => .cons ⟨.ref _, rfl, .tup (tb _ _ h) (keys_dp _), n _ (List.mem_cons_self ..)⟩ (ih fun d m => n d (List.mem_cons_of_mem _ m))
theorem cr_sortT {X : Cx} (hc : X.calm = true) (hu : X.A.units + 64 < cLine) : CallR X (.builtin "sorted") (rSortT X.K) := by
  intro pins s σ H xs us Q I r h
  obtain ⟨a, kvs, B, rfl, hd, bh, tb, ok, q⟩ := h
  rw [Vals.ref1 r]
  obtain ⟨k1, k2, k3, k4⟩ := okS_ok ok
  obtain ⟨z, hs, ks, pr, o, es, ep, ho, hx, hdt, he, hn⟩ := (show ObjOk X.prog X.w H s.heap a (.dT kvs) from hd.ok I.hok)
  have l1 : es.size = ks.length := size_of_entries he
  have l2 : kvs.length = ks.length := Paired.length pr
  have nD : ∀ d ∈ keyTs kvs, noD d = true := fun d m => alike_noD d (by
    have := k1 d (by rw [List.map_id]; exact m) d (by rw [List.map_id]; exact m)
    exact this)
  refine Calls.call_function_entry PyProof.Rows.kind_sorted PyProof.Rows.plain_sorted PyProof.Rows.entry_sorted (PyProof.Rows.args_sorted1 _) ?_
  unfold Builtin.«sorted»
  refine wpAny_bind (m := checkCount "sorted" 1 1 _) (wpAny_pure ?_)
  refine wpAny_bind (PySem.W.kdu_collect (A := X.A.in1) (kdl_raw hs hx hdt) (I.ok.hd hc) ho (by omega) fun h' tk acc hk it => ?_)
  have ea : acc.toList = ks.map fun x => Value.ref x.2.1 := by
    have hl : acc.toList.length = ks.length := by rw [Array.length_toList, it.1]; exact l1
    apply List.ext_getElem?
    intro j
    rw [List.getElem?_map]
    cases hj : acc.toList[j]? with
    | none =>
      have h1 := List.getElem?_eq_none_iff.mp hj
      rw [List.getElem?_eq_none (by omega)]
      all_goals rfl
    | some v =>
      obtain ⟨en, hen, hv⟩ := it.2 j v (by rw [← Array.getElem?_toList]; exact hj)
      have qe := entry_at he j
      rw [hen] at qe
      cases hb : ks[j]? with
      | none =>
        rw [hb] at qe
        exact nomatch (show some en = none from qe)
      | some b =>
        rw [hb] at qe
        have e2 : en = entryOfKey (tupleKind (mixKind X.prog X.w)) b := Option.some.inj qe
        rw [hv, e2]
        all_goals rfl
  have eb : acc.toList = (ks.map fun x => x.2.1).map Value.ref := by rw [ea, List.map_map]; all_goals rfl
  have I1 : Inv X pins σ H { s with heap := h', toks := tk } := I.kept hk
  have eachD : PySem.W.EachIs (fun v d => ∃ x, RelV x v ∧ Dp X.K B x d ∧ noD d = true) acc.toList (keyTs kvs) := by
    rw [eb]
    exact each_keysT tb (isKeys_of pr) nD
  have hlen : acc.toList.length ≤ sizeLine := by
    rw [ea, List.length_map]
    omega
  refine wpAny_bind (wpAny_newList ?_ hlen)
  have hoL : (h'.push (seqObj "list" acc.toList.toArray 0)).get? h'.objs.size = some (seqObj "list" acc.toList.toArray 0) := Heap.get?_push_size _ rfl
  show wpAny _ _ _ _ _ { s with heap := h'.push (seqObj "list" acc.toList.toArray 0), toks := tk }
  have er : PySem.W.EachIs (fun v d => ∃ as, Reads (PySem.W.sortingHeap (h'.push (seqObj "list" acc.toList.toArray 0)) h'.objs.size acc.toList) v (id d) as) acc.toList (keyTs kvs) := eachD.mono fun v d ⟨x, rx, dx, nd⟩ => by
    obtain ⟨as, rr⟩ := Dp.reads I1 d x v (dp_l2 _ _ nd (dp_same bh _ _ dx)) rx
    exact ⟨as, PyProof.Rows.Reads.keeps (fun b ob e => PySem.W.sortingHeap_old (Nat.ne_of_lt (Heap.lt_size e)) (Heap.get?_push_of_some _ e)) rr⟩
  have dep : ∀ b, b ∈ keyTs kvs → X.A.units + 2 + (id b).depth < cLine := fun b hb => by
    have := k3 b hb
    show X.A.units + 2 + b.depth < cLine
    omega
  refine wpAny_bind (wpAny_holding (wpAny_call_entry PyProof.Rows.slot_list_sort ⟨_, hoL, rfl⟩ PyProof.Rows.entry_list_sort
    (PySem.W.list_sort_vals (s := { s with heap := h'.push (seqObj "list" acc.toList.toArray 0), toks := tk }) hoL (PySem.W.SortsAt.data (s := { s with heap := PySem.W.sortingHeap (h'.push (seqObj "list" acc.toList.toArray 0)) h'.objs.size acc.toList, toks := tk })
      (PySem.W.each_map (R := fun v d => ∃ as, Reads (PySem.W.sortingHeap (h'.push (seqObj "list" acc.toList.toArray 0)) h'.objs.size acc.toList) v d as) id er) k1 k2 (PySem.W.bound_map dep)) hlen ⟨_, rfl, ?_⟩) (PyProof.Rows.args_list_sort _)))
  have eo := PySem.W.sortVals_data (R := fun v d => ∃ x, RelV x v ∧ Dp X.K B x d) false (eachD.mono fun v d ⟨x, rx, dx, _⟩ => ⟨x, rx, dx⟩) er k1
  obtain ⟨ys, g1, g2⟩ := of_each eo
  rw [← sortD_eq] at g2
  obtain ⟨e', he'⟩ := PyProof.Rows.sortedHeap_at (vs := acc.toList) (out := (PySem.W.sortVals (PySem.W.dataKind (PySem.W.sortingHeap (h'.push (seqObj "list" acc.toList.toArray 0)) h'.objs.size acc.toList) ((keyTs kvs).map id)) false acc.toList acc.toList).toArray) hoL
  have hy : ys.length ≤ sizeLine := by
    rw [dps_len g2, sortD_eq, List.length_mergeSort]
    exact k4
  refine wpAny_pure ⟨_, rfl, .ref h'.objs.size, upd H h'.objs.size (.lst ys), I1.laid (t' := tk) (fun b u e => ?_) (Nat.le_refl _)
    (show ObjOk X.prog X.w _ _ _ (.lst ys) from ⟨hy, _, e', g1, he'⟩), rfl, q _ ys (I1.hok.fresh (Nat.le_refl _)) g2⟩
  have hb : b < h'.objs.size := Heap.lt_size e
  rw [PyProof.Rows.sortedHeap_old (Nat.ne_of_lt hb) (by rw [size_push']; exact Nat.lt_succ_of_lt hb)]
  exact Heap.get?_push_of_some _ e
/-- sorted(d) -/
def fSortD (f : FE) : FE := fun s => (f s).bind fun r s1 => match view s1 r with
  | some (.dict ks) => if isKd ks then .no else if okS (ks.map (·.1)) then .ok (.tmp (sortD (ks.map (·.1)))) s1 else .no
  | _ => .no
section
variable {X : Cx} {p : Pr} {W : WX} {f g : FE} {a e : Expr} {pos p' : Pos}
theorem de_sortD (hc : X.calm = true) (hu : X.A.units + 64 < cLine) (hg : Gl X "sorted") (hm : X.mg "sorted" = none) (ha : PE X e (tE p W f)) (eK : p.K = X.K := by rfl)
    (he : starEach [e] X.env = (false, eval e X.env) :: starEach [] X.env := by rfl) (hpl : (backTo pos (starEach [] X.env)).any (·.1) = false := by rfl) : PE X (.Call (.Name "sorted" p') [e] [] pos) (tE p W (fSortD f)) :=
  PE.imp (pe_callB (cr_sortT hc hu) hg hm PyProof.Rows.boot_sorted (pa_cons ha pa_nil he) (by decide) (by decide) he hpl) fun σ H Q h => by
  obtain ⟨B, s, ok, q⟩ := h
  refine ⟨B, s, ok, run_mono (run_bind q) fun r s1 B1 H1 x1 ok1 k v hv => ?_⟩
  split at k
  · rename_i ks ev
    split at k
    · exact k.elim
    · rename_i hk
      split at k
      · rename_i hok
        obtain ⟨a, u, rfl, h1, h2⟩ := (vw_of hv ok1 ev).dict ok1.bh
        obtain ⟨kvs, rfl, h3⟩ := dt_of h2 (by simpa using hk)
        rw [keyTs_of h3] at hok k
        refine ⟨a, kvs, B1, rfl, h1, ok1.bh, ok1.tb, hok, fun q ys n hd => ?_⟩
        exact k B1 (upd H1 q (.lst ys)) (.newH n) (ok1.newH n mutb_lst) _ ⟨q, _, rfl, x1.dom _ n, upd_same, ok1.bh.free n, by rw [eK]; exact hd, ok1.notOwn n⟩
      · exact k.elim
  · exact k.elim
end
end DL
end

set_option Elab.async false
set_option linter.all false
set_option maxRecDepth 100000
set_option maxHeartbeats 4000000
noncomputable section
namespace DL
open PySem PySem.Spec PyProof.Rows L2

/-! ### in a tuple of texts that stands at the top -/
/-- what stands at the top: a tuple of texts -/
def TopT (K : PySem.W.Frag) (t : Addr) (cs : List Str) : Prop := SqT0 K t (cs.map V.str)
  where SqT0 (K : PySem.W.Frag) (t : Addr) (vs : List V) : Prop := ∀ H : Hp, SqT K H t vs
theorem topT_of {K : PySem.W.Frag} {t : Addr} {cs : List Str} (h : ∀ H : Hp, SqT K H t (cs.map V.str)) : TopT K t cs := h
theorem strs_l2 {K : PySem.W.Frag} {H : Hp} : ∀ cs : List Str, L2.DpAll K H (cs.map V.str) (cs.map PyData.str)
  | [] => .nil
  | c :: cs => .cons (.str c) (strs_l2 cs)
def hInC (n : Bool) (cs : List Str) (d : D) : Option PO := (memD d (cs.map PyData.str)).map fun b => .val (.bool (if n then !b else b))
theorem pr_inC {K : PySem.W.Frag} {n : Bool} {t : Addr} {cs : List Str} (h : TopT K t cs) : Prim1 K (fun x H Q => rMem K n x (.ref t) H Q) (hInC n cs) := by
  intro B H v d o Q bh hv he hq
  unfold hInC at he
  cases eb : memD d (cs.map PyData.str) with
  | none =>
    rw [eb] at he
    cases he
  | some b =>
    rw [eb] at he
    cases he
    obtain ⟨h1, h2, h3⟩ := memD_ok eb
    exact ⟨d, _, dp_l2 _ _ (shaped_noD h1) (hv.dp bh (shaped_noD h1)), .inr (.tup (h H) (strs_l2 cs)), h1, h2, by rw [h3]; exact hq _ (.bl _)⟩
section
variable {X : Cx} {p : Pr} {W : WX} {f : FE} {a : Expr} {pos p' : Pos} {x : Str} {t : Addr} {cs : List Str}
theorem de_inC {op : CmpOp} {n : Bool} (ho : OpR X (compareOp op) (rMem X.K n)) (ht : TopT X.K t cs) (hg : Gl X x) (hm : X.mg x = some (.ref t)) (ha : PE X a (tE p W f)) (hb : behindInMarks op (.Name x p') = false) (eK : p.K = X.K := by rfl) (hd : (x == ("__debug__" : Str)) = false := by decide) :
    PE X (.Compare a [op] [.Name x p'] pos) (tE p W (f1 (hInC n cs) f)) := PE.imp (pe_cmpR ho ha (pe_glob hg hm (show RelV (.ref t) (.ref t) from rfl) hd) hb) fun σ H Q q => by
  have q' := t1_of (pr_inC (n := n) (K := p.K) (by rw [eK]; exact ht)) q
  rw [eK] at q'
  exact q'
theorem dt_inC {op : CmpOp} {n : Bool} (ho : OpR X (compareOp op) (rMem X.K n)) (ht : TopT X.K t cs) (hg : Gl X x) (hm : X.mg x = some (.ref t)) (ha : PE X a (tE p W f)) (hb : behindInMarks op (.Name x p') = false) (eK : p.K = X.K := by rfl) (hd : (x == ("__debug__" : Str)) = false := by decide) :
    PT X (.Compare a [op] [.Name x p'] pos) (tT p W (fTr (f1 (hInC n cs) f))) := PT.imp (pt_cmpR ho ha (pe_glob hg hm (show RelV (.ref t) (.ref t) from rfl) hd) hb) fun σ H Q q => by
  have q' := t1_of (pr_inC (n := n) (K := p.K) (by rw [eK]; exact ht)) (tr_of q)
  rw [eK] at q'
  exact q'
end
end DL
end

set_option Elab.async false
set_option linter.all false
set_option maxRecDepth 100000
set_option maxHeartbeats 4000000
noncomputable section
namespace DL
open PySem PySem.Spec PyProof.Rows L2
/-! ### len of a text, a tuple of the top -/
def hLenS : List D → Option PO
  | [.str x] => if x.length ≤ mx then some (.val (.int x.length)) else none
  | _ => none
theorem pr_lenS {K : PySem.W.Frag} : PrimOk K (fun xs H Q => ∃ z, xs = [V.str z] ∧ z.length ≤ sizeLine ∧ Q (.int z.length) H) hLenS := by
  intro B H vs ds o Q bh hv he hq
  unfold hLenS at he
  split at he
  · split at he
    · rename_i x hz
      cases he
      obtain ⟨v, rfl, h⟩ := vs1 hv
      exact ⟨x, by rw [h.str], mx_le hz, hq _ (.int _)⟩
    · cases he
  · cases he
theorem top_of {K : PySem.W.Frag} {t : Addr} {od : Option Addr} {its : Array Value} {n : Nat} {sl : Array (Option Value)} {cs : List Str} (h : K.lookup t = some ⟨.type "tuple", od, .seq its n, sl⟩) (hz : its.size ≤ sizeLine := by decide) (hv : Vals (cs.map V.str) its.toList := by repeat (first | exact .nil | refine .cons ⟨_, rfl⟩ ?_)) : TopT K t cs := fun H => .inr ⟨_, its, n, h, rfl, rfl, hz, hv⟩
end DL
end

set_option Elab.async false
set_option linter.all false
set_option maxRecDepth 100000
set_option maxHeartbeats 8000000
noncomputable section
namespace DLP
open PySem PySem.Spec PyProof.Rows L2 DL
def topS (i : Nat) : Stmt := PySem.Challenge.pw_whotouches_k71_whole_least_boxes_of_tree.main.body.getD i (.Pass ⟨0, 0, 0, 0⟩)
def clsB : Stmt → List Stmt
  | .ClassDef (body := b) .. => b
  | _ => []
def iniS (i j : Nat) : Stmt := (clsB (topS i)).getD j (.Pass ⟨0, 0, 0, 0⟩)
theorem hu1 {k : Nat} {A : Around} (r : Room k A) : A.units + 1 < cLine := by
  have := r.un
  omega
theorem hu65 {k : Nat} {A : Around} (r : Room k A) : A.units + 65 < cLine := by
  have := r.un
  omega
def fld : Nat → Str
  | _ => ""
def mt_FloorError : Nat → Bool
  | 0 => true
  | 1 => true
  | 2 => true
  | _ => false
def mt_NoSizes : Nat → Bool
  | 1 => true
  | _ => false
def mt_NoTree : Nat → Bool
  | 2 => true
  | _ => false
structure G (K : PySem.W.Frag) (mg : Str → Option Value) where
  a_is_integer : Addr
  d_is_integer : FuncData
  F_is_integer : Fun K "is_integer" "is_integer" (topS 6) a_is_integer d_is_integer
  b_is_integer : Binds K d_is_integer ["thing"] []
  g_is_integer : mg "is_integer" = some (.ref a_is_integer)
  a_rooms_in : Addr
  d_rooms_in : FuncData
  F_rooms_in : Fun K "rooms_in" "rooms_in" (topS 9) a_rooms_in d_rooms_in
  b_rooms_in : Binds K d_rooms_in ["thing"] []
  g_rooms_in : mg "rooms_in" = some (.ref a_rooms_in)
  a_is_tree : Addr
  d_is_tree : FuncData
  F_is_tree : Fun K "is_tree" "is_tree" (topS 10) a_is_tree d_is_tree
  b_is_tree : Binds K d_is_tree ["thing"] []
  g_is_tree : mg "is_tree" = some (.ref a_is_tree)
  a_are_boxes : Addr
  d_are_boxes : FuncData
  F_are_boxes : Fun K "are_boxes" "are_boxes" (topS 13) a_are_boxes d_are_boxes
  b_are_boxes : Binds K d_are_boxes ["thing", "many"] []
  g_are_boxes : mg "are_boxes" = some (.ref a_are_boxes)
  a_fewest : Addr
  d_fewest : FuncData
  F_fewest : Fun K "fewest" "fewest" (topS 14) a_fewest d_fewest
  b_fewest : Binds K d_fewest ["shapes"] []
  g_fewest : mg "fewest" = some (.ref a_fewest)
  a_put_together : Addr
  d_put_together : FuncData
  F_put_together : Fun K "put_together" "put_together" (topS 15) a_put_together d_put_together
  b_put_together : Binds K d_put_together ["kind", "one", "other"] []
  g_put_together : mg "put_together" = some (.ref a_put_together)
  a_shapes_of : Addr
  d_shapes_of : FuncData
  F_shapes_of : Fun K "shapes_of" "shapes_of" (topS 16) a_shapes_of d_shapes_of
  b_shapes_of : Binds K d_shapes_of ["tree", "sizes"] []
  g_shapes_of : mg "shapes_of" = some (.ref a_shapes_of)
  a_shapes : Addr
  d_shapes : FuncData
  F_shapes : Fun K "shapes" "shapes" (topS 17) a_shapes d_shapes
  b_shapes : Binds K d_shapes ["tree", "sizes"] []
  g_shapes : mg "shapes" = some (.ref a_shapes)
  a_shape_with : Addr
  d_shape_with : FuncData
  F_shape_with : Fun K "shape_with" "shape_with" (topS 18) a_shape_with d_shape_with
  b_shape_with : Binds K d_shape_with ["tree", "sizes", "turned"] []
  g_shape_with : mg "shape_with" = some (.ref a_shape_with)
  a_is_rooms_lot : Addr
  d_is_rooms_lot : FuncData
  F_is_rooms_lot : Fun K "is_rooms_lot" "is_rooms_lot" (topS 19) a_is_rooms_lot d_is_rooms_lot
  b_is_rooms_lot : Binds K d_is_rooms_lot ["thing", "many"] []
  g_is_rooms_lot : mg "is_rooms_lot" = some (.ref a_is_rooms_lot)
  a_are_shapes : Addr
  d_are_shapes : FuncData
  F_are_shapes : Fun K "are_shapes" "are_shapes" (topS 20) a_are_shapes d_are_shapes
  b_are_shapes : Binds K d_are_shapes ["tree", "sizes", "thing"] []
  g_are_shapes : mg "are_shapes" = some (.ref a_are_shapes)
  a__law_hand : Addr
  d__law_hand : FuncData
  F__law_hand : Fun K "_law_hand" "_law_hand" (topS 22) a__law_hand d__law_hand
  b__law_hand : Binds K d__law_hand ["script"] []
  g__law_hand : mg "_law_hand" = some (.ref a__law_hand)
  a__law_draw : Addr
  d__law_draw : FuncData
  F__law_draw : Fun K "_law_draw" "_law_draw" (topS 23) a__law_draw d__law_draw
  b__law_draw : Binds K d__law_draw ["hand", "many"] []
  g__law_draw : mg "_law_draw" = some (.ref a__law_draw)
  a__law_big : Addr
  d__law_big : FuncData
  F__law_big : Fun K "_law_big" "_law_big" (topS 24) a__law_big d__law_big
  b__law_big : Binds K d__law_big ["hand", "most"] []
  g__law_big : mg "_law_big" = some (.ref a__law_big)
  a__law_some : Addr
  d__law_some : FuncData
  F__law_some : Fun K "_law_some" "_law_some" (topS 25) a__law_some d__law_some
  b__law_some : Binds K d__law_some ["hand", "things"] []
  g__law_some : mg "_law_some" = some (.ref a__law_some)
  a__law_kept : Addr
  d__law_kept : FuncData
  F__law_kept : Fun K "_law_kept" "_law_kept" (topS 26) a__law_kept d__law_kept
  b__law_kept : Binds K d__law_kept ["told", "due"] []
  g__law_kept : mg "_law_kept" = some (.ref a__law_kept)
  a__law_whole : Addr
  d__law_whole : FuncData
  F__law_whole : Fun K "_law_whole" "_law_whole" (topS 27) a__law_whole d__law_whole
  b__law_whole : Binds K d__law_whole ["number"] []
  g__law_whole : mg "_law_whole" = some (.ref a__law_whole)
  a__law_rightened : Addr
  d__law_rightened : FuncData
  F__law_rightened : Fun K "_law_rightened" "_law_rightened" (topS 29) a__law_rightened d__law_rightened
  b__law_rightened : Binds K d__law_rightened ["tree"] []
  g__law_rightened : mg "_law_rightened" = some (.ref a__law_rightened)
  a__law_draw_tree : Addr
  d__law_draw_tree : FuncData
  F__law_draw_tree : Fun K "_law_draw_tree" "_law_draw_tree" (topS 28) a__law_draw_tree d__law_draw_tree
  b__law_draw_tree : Binds K d__law_draw_tree ["hand", "many"] []
  g__law_draw_tree : mg "_law_draw_tree" = some (.ref a__law_draw_tree)
  a__law_box : Addr
  d__law_box : FuncData
  F__law_box : Fun K "_law_box" "_law_box" (topS 30) a__law_box d__law_box
  b__law_box : Binds K d__law_box ["tree", "sizes", "turned"] []
  g__law_box : mg "_law_box" = some (.ref a__law_box)
  a__law_all_boxes : Addr
  d__law_all_boxes : FuncData
  F__law_all_boxes : Fun K "_law_all_boxes" "_law_all_boxes" (topS 31) a__law_all_boxes d__law_all_boxes
  b__law_all_boxes : Binds K d__law_all_boxes ["tree", "sizes"] []
  g__law_all_boxes : mg "_law_all_boxes" = some (.ref a__law_all_boxes)
  a__law_least : Addr
  d__law_least : FuncData
  F__law_least : Fun K "_law_least" "_law_least" (topS 32) a__law_least d__law_least
  b__law_least : Binds K d__law_least ["boxes"] []
  g__law_least : mg "_law_least" = some (.ref a__law_least)
  a__law_refusal : Addr
  d__law_refusal : FuncData
  F__law_refusal : Fun K "_law_refusal" "_law_refusal" (topS 33) a__law_refusal d__law_refusal
  b__law_refusal : Binds K d__law_refusal ["tree", "sizes"] []
  g__law_refusal : mg "_law_refusal" = some (.ref a__law_refusal)
  a_law : Addr
  d_law : FuncData
  F_law : Fun K "law" "law" (topS 34) a_law d_law
  b_law : Binds K d_law ["script"] []
  g_law : mg "law" = some (.ref a_law)
  t_MOST_ROOMS : Tok
  c_MOST_ROOMS : mg "MOST_ROOMS" = some (.int 24 t_MOST_ROOMS)
  t_KINDS : Addr
  c_KINDS : mg "KINDS" = some (.ref t_KINDS)
  T_KINDS : TopT K t_KINDS ["level", "up"]
  t_GREATEST : Tok
  c_GREATEST : mg "GREATEST" = some (.int 1000000000 t_GREATEST)
  z_abs : mg "abs" = none
  z_all : mg "all" = none
  z_any : mg "any" = none
  z_bool : mg "bool" = none
  z_int : mg "int" = none
  z_isinstance : mg "isinstance" = none
  z_len : mg "len" = none
  z_list : mg "list" = none
  z_max : mg "max" = none
  z_range : mg "range" = none
  z_sorted : mg "sorted" = none
  z_str : mg "str" = none
  z_tuple : mg "tuple" = none
  z_zip : mg "zip" = none
  a_FloorError : Addr
  g_FloorError : mg "FloorError" = some (.ref a_FloorError)
  q_FloorError : PySem.W.excIn K a_FloorError [.type "ValueError", .type "Exception", .type "BaseException", .type "object"] "ValueError.__new__" = true
  k_FloorError : PySem.W.keepIn K (.ref a_FloorError) = true
  s_FloorError : PySem.W.subIn K (.ref a_FloorError) (.type "BaseException") = some true
  t_FloorError : PySem.W.typeIn K (.ref a_FloorError) = some (.type "type")
  a_NoSizes : Addr
  g_NoSizes : mg "NoSizes" = some (.ref a_NoSizes)
  q_NoSizes : PySem.W.excIn K a_NoSizes [.type "ValueError", .type "Exception", .type "BaseException", .type "object"] "ValueError.__new__" = true
  k_NoSizes : PySem.W.keepIn K (.ref a_NoSizes) = true
  s_NoSizes : PySem.W.subIn K (.ref a_NoSizes) (.type "BaseException") = some true
  t_NoSizes : PySem.W.typeIn K (.ref a_NoSizes) = some (.type "type")
  a_NoTree : Addr
  g_NoTree : mg "NoTree" = some (.ref a_NoTree)
  q_NoTree : PySem.W.excIn K a_NoTree [.type "ValueError", .type "Exception", .type "BaseException", .type "object"] "ValueError.__new__" = true
  k_NoTree : PySem.W.keepIn K (.ref a_NoTree) = true
  s_NoTree : PySem.W.subIn K (.ref a_NoTree) (.type "BaseException") = some true
  t_NoTree : PySem.W.typeIn K (.ref a_NoTree) = some (.type "type")
  e_FloorError_FloorError : PySem.W.exmOne K (.ref a_FloorError) (.ref a_FloorError) = some true
  e_NoSizes_FloorError : PySem.W.exmOne K (.ref a_NoSizes) (.ref a_FloorError) = some true
  e_NoTree_FloorError : PySem.W.exmOne K (.ref a_NoTree) (.ref a_FloorError) = some true
  e_FloorError_NoSizes : PySem.W.exmOne K (.ref a_FloorError) (.ref a_NoSizes) = some false
  e_NoSizes_NoSizes : PySem.W.exmOne K (.ref a_NoSizes) (.ref a_NoSizes) = some true
  e_NoTree_NoSizes : PySem.W.exmOne K (.ref a_NoTree) (.ref a_NoSizes) = some false
  e_FloorError_NoTree : PySem.W.exmOne K (.ref a_FloorError) (.ref a_NoTree) = some false
  e_NoSizes_NoTree : PySem.W.exmOne K (.ref a_NoSizes) (.ref a_NoTree) = some false
  e_NoTree_NoTree : PySem.W.exmOne K (.ref a_NoTree) (.ref a_NoTree) = some true
section
variable {P : Program} {w : World} {K : PySem.W.Frag} {mg : Str → Option Value} {base : Heap}
def Cn (g : G K mg) : Nat → Option Addr
  | 0 => some g.a_FloorError
  | 1 => some g.a_NoSizes
  | 2 => some g.a_NoTree
  | _ => none
theorem m_FloorError (g : G K mg) : ∀ n C, Cn g n = some C → PySem.W.exmOne K (.ref C) (.ref g.a_FloorError) = some (mt_FloorError n) := fun n C h => by
  match n, h with
  | 0, h => cases h; exact g.e_FloorError_FloorError
  | 1, h => cases h; exact g.e_NoSizes_FloorError
  | 2, h => cases h; exact g.e_NoTree_FloorError
  | _ + 3, h => cases h
theorem m_NoSizes (g : G K mg) : ∀ n C, Cn g n = some C → PySem.W.exmOne K (.ref C) (.ref g.a_NoSizes) = some (mt_NoSizes n) := fun n C h => by
  match n, h with
  | 0, h => cases h; exact g.e_FloorError_NoSizes
  | 1, h => cases h; exact g.e_NoSizes_NoSizes
  | 2, h => cases h; exact g.e_NoTree_NoSizes
  | _ + 3, h => cases h
theorem m_NoTree (g : G K mg) : ∀ n C, Cn g n = some C → PySem.W.exmOne K (.ref C) (.ref g.a_NoTree) = some (mt_NoTree n) := fun n C h => by
  match n, h with
  | 0, h => cases h; exact g.e_FloorError_NoTree
  | 1, h => cases h; exact g.e_NoSizes_NoTree
  | 2, h => cases h; exact g.e_NoTree_NoTree
  | _ + 3, h => cases h
/-! ### is_integer -/
abbrev s_is_integer : Stmt := topS 6
theorem sc_is_integer : FnScope ["thing"] ["thing"] (defScope s_is_integer) := ⟨rfl, rfl, rfl, by decide +kernel, rfl, by decide +kernel, by decide +kernel⟩
def B_is_integer : FS := (fRet (fAndV (f1 (hIs .int) (fName 0)) (fNotV (f1 (hIs .bool) (fName 0)))))
def F_is_integer : List AV → RF := mkF 1 1 B_is_integer
theorem ok_is_integer (g : G K mg) : FnOk P w K mg base (L2.CX P w) 1 g.a_is_integer g.d_is_integer ["thing"] (spD K (Cn g) fld F_is_integer) :=
  fn_okD (k := 0) g.F_is_integer sc_is_integer fun cdv A outer s H E Z B0 L hr => (dss_one (ds_ret (de_and (de_isi .int rfl rfl g.z_isinstance rfl g.z_int PyProof.Rows.boot_int (de_name 0)) (de_one (de_not (de_isi .bool rfl rfl g.z_isinstance rfl g.z_bool PyProof.Rows.boot_bool (de_name 0)))))))
/-! ### rooms_in -/
abbrev s_rooms_in : Stmt := topS 9
theorem sc_rooms_in : FnScope ["thing", "before", "behind"] ["thing"] (defScope s_rooms_in) := ⟨rfl, rfl, rfl, by decide +kernel, rfl, by decide +kernel, by decide +kernel⟩
def B_rooms_in (F : List AV → RF) : FS := (fSeq (fIfS (fTr (fCallF F_is_integer (faCons (fName 0) faNil))) (fRet (fIf (fTr (fChain (fImm (.int 0)) (fcLink hLe (fName 0) (fcLast hLt (fImm (.int 24)))))) (fLst (faCons (fName 0) faNil)) (fImm .none))) fNx) (fSeq (fIfS (fOr (fNot (fTr (f1 (hIs .tuple) (fName 0)))) (fOr (fTr (f2 hNe (fCall hLen (faCons (fName 0) faNil)) (fImm (.int 3)))) (fOr (fNot (fTr (f1 (hIs .str) (f2 hIx (fName 0) (fImm (.int 0)))))) (fTr (f1 (hInC true ["level", "up"]) (f2 hIx (fName 0) (fImm (.int 0)))))))) (fRet (fImm .none)) fNx) (fSeq (fIfS (fAnd (fTr (f1 (hIs .tuple) (f2 hIx (fName 0) (fImm (.int 1))))) (fAnd (fTr (f2 hEq (fCall hLen (faCons (f2 hIx (fName 0) (fImm (.int 1))) faNil)) (fImm (.int 3)))) (fTr (f2 hEq (f2 hIx (f2 hIx (fName 0) (fImm (.int 1))) (fImm (.int 0))) (f2 hIx (fName 0) (fImm (.int 0))))))) (fRet (fImm .none)) fNx) (fSeq (fSetI 1 (fCallF F (faCons (f2 hIx (fName 0) (fImm (.int 1))) faNil))) (fSeq (fSetI 2 (fIf (fTr (f2 hIsN (fName 1) (fImm .none))) (fImm .none) (fCallF F (faCons (f2 hIx (fName 0) (fImm (.int 2))) faNil)))) (fRet (fIf (fOr (fTr (f2 hIsN (fName 2) (fImm .none))) (fTr (f2 hGt (f2 hAdd (fCall hLen (faCons (fName 1) faNil)) (fCall hLen (faCons (fName 2) faNil))) (fImm (.int 24))))) (fImm .none) (f2 hAdd (fName 1) (fName 2)))))))))
def F_rooms_in : Nat → List AV → RF
  | 0 => fun _ => .no
  | n + 1 => mkF 1 3 (B_rooms_in (F_rooms_in n))
theorem ok_rooms_in (g : G K mg) : ∀ n, FnOk P w K mg base (L2.CX P w) (1 + n) g.a_rooms_in g.d_rooms_in ["thing"] (spD K (Cn g) fld (F_rooms_in n))
  | 0 => fn_noD (k := 0) g.F_rooms_in sc_rooms_in
  | n + 1 => by
    have ih := ok_rooms_in g n
    exact fn_okD (k := 1 + n) g.F_rooms_in sc_rooms_in fun cdv A outer s H E Z B0 L hr => (dss_cons (ds_if (dt_val (de_call (ok_is_integer g) (hr.mono (by omega)) g.g_is_integer g.F_is_integer.kp g.b_is_integer (takes_of rfl rfl rfl rfl) (da_cons (de_name 0) da_nil))) (dss_one (ds_ret (de_if (dt_chain de_int (ct_link op_le pr_cmp (de_name 0) (ct_last op_lt pr_cmp (de_glob (v := .int 24) rfl g.c_MOST_ROOMS ⟨_, rfl⟩ fun _ => Dp.int _)))) (de_lst (da_cons (de_name 0) da_nil)) de_non))) dss_nil) (dss_cons (ds_if (PW.pt (dw_or (dt_not (dt_val (de_isi .tuple rfl rfl g.z_isinstance rfl g.z_tuple PyProof.Rows.boot_tuple (de_name 0)))) (dw_or (dt_cmp (op_neD hr.units) pr_ne (de_callB call_len_seq pr_len rfl g.z_len PySem.boot_len (da_cons (de_name 0) da_nil)) de_int (nomark _)) (dw_or (dt_not (dt_val (de_isi .str rfl rfl g.z_isinstance rfl g.z_str PyProof.Rows.boot_str (de_ix ix_seq pr_ix (de_name 0) de_int (fun _ _ => rfl))))) (dw_or1 (dt_inC (op_notMem (hu65 hr)) g.T_KINDS rfl g.c_KINDS (de_ix ix_seq pr_ix (de_name 0) de_int (fun _ _ => rfl)) (by rfl))))))) (dss_one (ds_ret de_non)) dss_nil) (dss_cons (ds_if (PW.pt (dw_and (dt_val (de_isi .tuple rfl rfl g.z_isinstance rfl g.z_tuple PyProof.Rows.boot_tuple (de_ix ix_seq pr_ix (de_name 0) de_int (fun _ _ => rfl)))) (dw_and (dt_cmp (op_eqD hr.units) pr_eq (de_callB call_len_seq pr_len rfl g.z_len PySem.boot_len (da_cons (de_ix ix_seq pr_ix (de_name 0) de_int (fun _ _ => rfl)) da_nil)) de_int (nomark _)) (dw_and1 (dt_cmp (op_eqD hr.units) pr_eq (de_ix ix_seq pr_ix (de_ix ix_seq pr_ix (de_name 0) de_int (fun _ _ => rfl)) de_int (fun _ _ => rfl)) (de_ix ix_seq pr_ix (de_name 0) de_int (fun _ _ => rfl)) (nomark _)))))) (dss_one (ds_ret de_non)) dss_nil) (dss_cons (ds_setI 1 sc_rooms_in.nd (de_call (ih) (hr.mono (by omega)) g.g_rooms_in g.F_rooms_in.kp g.b_rooms_in (takes_of rfl rfl rfl rfl) (da_cons (de_ix ix_seq pr_ix (de_name 0) de_int (fun _ _ => rfl)) da_nil))) (dss_cons (ds_setI 2 sc_rooms_in.nd (de_if (dt_cmp op_isN pr_isN (de_name 1) de_non (nomark _)) de_non (de_call (ih) (hr.mono (by omega)) g.g_rooms_in g.F_rooms_in.kp g.b_rooms_in (takes_of rfl rfl rfl rfl) (da_cons (de_ix ix_seq pr_ix (de_name 0) de_int (fun _ _ => rfl)) da_nil)))) (dss_one (ds_ret (de_if (PW.pt (dw_or (dt_cmp op_isN pr_isN (de_name 2) de_non (nomark _)) (dw_or1 (dt_cmp op_gt pr_cmp (de_bin op_addD pr_add (de_callB call_len_seq pr_len rfl g.z_len PySem.boot_len (da_cons (de_name 1) da_nil)) (de_callB call_len_seq pr_len rfl g.z_len PySem.boot_len (da_cons (de_name 2) da_nil))) (de_glob (v := .int 24) rfl g.c_MOST_ROOMS ⟨_, rfl⟩ fun _ => Dp.int _) (nomark _))))) de_non (de_bin op_addD pr_add (de_name 1) (de_name 2))))))))))
/-! ### is_tree -/
abbrev s_is_tree : Stmt := topS 10
theorem sc_is_tree : FnScope ["thing", "rooms"] ["thing"] (defScope s_is_tree) := ⟨rfl, rfl, rfl, by decide +kernel, rfl, by decide +kernel, by decide +kernel⟩
def B_is_tree : FS := (fSeq (fSetI 1 (fCallF (F_rooms_in 12) (faCons (fName 0) faNil))) (fRet (fAndV (f2 hNotN (fName 1) (fImm .none)) (f2 hEq (fCall hSorted (faCons (fName 1) faNil)) (fLRg1 (fCall hLen (faCons (fName 1) faNil)))))))
def F_is_tree : List AV → RF := mkF 1 2 B_is_tree
theorem ok_is_tree (g : G K mg) : FnOk P w K mg base (L2.CX P w) 14 g.a_is_tree g.d_is_tree ["thing"] (spD K (Cn g) fld F_is_tree) :=
  fn_okD (k := 13) g.F_is_tree sc_is_tree fun cdv A outer s H E Z B0 L hr => (dss_cons (ds_setI 1 sc_is_tree.nd (de_call (ok_rooms_in g 12) (hr.mono (by omega)) g.g_rooms_in g.F_rooms_in.kp g.b_rooms_in (takes_of rfl rfl rfl rfl) (da_cons (de_name 0) da_nil))) (dss_one (ds_ret (de_and (de_cmp op_notN pr_notN (de_name 1) de_non (nomark _)) (de_one (de_cmp (op_eqD hr.units) pr_eq (de_callB (cr_sortD hr.units) pr_sorted rfl g.z_sorted PyProof.Rows.boot_sorted (da_cons (de_name 1) da_nil)) (de_lrg1 rfl rfl g.z_list rfl g.z_range (de_callB call_len_seq pr_len rfl g.z_len PySem.boot_len (da_cons (de_name 1) da_nil))) (nomark _)))))))
/-! ### are_boxes -/
abbrev s_are_boxes : Stmt := topS 13
theorem sc_are_boxes : FnScope ["thing", "many", "size", "pair"] ["thing", "many"] (defScope s_are_boxes) := ⟨rfl, rfl, rfl, by decide +kernel, rfl, by decide +kernel, by decide +kernel⟩
def B_are_boxes : FS := (fSeq (fIfS (fOr (fNot (fTr (f1 (hIs .tuple) (fName 0)))) (fTr (f2 hNe (fCall hLen (faCons (fName 0) faNil)) (fName 1)))) (fRet (fImm (.bool false))) fNx) (fSeq (fFor (fIt (fName 0)) (gOne 3) (fSeq (fIfS (fOr (fNot (fTr (f1 (hIs .tuple) (fName 3)))) (fTr (f2 hNe (fCall hLen (faCons (fName 3) faNil)) (fImm (.int 2))))) (fRet (fImm (.bool false))) fNx) (fIfS (fNot (fTr (fCall hAll (faCons (fLc (fIt (fName 3)) [2] (gOne 2) fYes (fAndV (fCallF F_is_integer (faCons (fName 2) faNil)) (fChain (fImm (.int 1)) (fcLink hLe (fName 2) (fcLast hLe (fImm (.int 1000000000))))))) faNil)))) (fRet (fImm (.bool false))) fNx))) (fRet (fImm (.bool true)))))
def F_are_boxes : List AV → RF := mkF 2 4 B_are_boxes
theorem ok_are_boxes (g : G K mg) : FnOk P w K mg base (L2.CX P w) 2 g.a_are_boxes g.d_are_boxes ["thing", "many"] (spD K (Cn g) fld F_are_boxes) :=
  fn_okD (k := 1) g.F_are_boxes sc_are_boxes fun cdv A outer s H E Z B0 L hr => (dss_cons (ds_if (PW.pt (dw_or (dt_not (dt_val (de_isi .tuple rfl rfl g.z_isinstance rfl g.z_tuple PyProof.Rows.boot_tuple (de_name 0)))) (dw_or1 (dt_cmp (op_neD hr.units) pr_ne (de_callB call_len_seq pr_len rfl g.z_len PySem.boot_len (da_cons (de_name 0) da_nil)) (de_name 1) (nomark _))))) (dss_one (ds_ret de_bl)) dss_nil) (dss_cons (ds_for (passes_of rfl) rfl (di_it (de_name 0)) (pg_name (i := 3) sc_are_boxes.nd rfl (by first | exact .inl rfl | exact .inr rfl)) (tq_one 3) (dss_cons (ds_if (PW.pt (dw_or (dt_not (dt_val (de_isi .tuple rfl rfl g.z_isinstance rfl g.z_tuple PyProof.Rows.boot_tuple (de_name 3)))) (dw_or1 (dt_cmp (op_neD hr.units) pr_ne (de_callB call_len_seq pr_len rfl g.z_len PySem.boot_len (da_cons (de_name 3) da_nil)) de_int (nomark _))))) (dss_one (ds_ret de_bl)) dss_nil) (dss_one (ds_if (dt_not (dt_val (de_callB (cr_all rfl) pr_all rfl g.z_all PyProof.Rows.boot_all (da_cons (de_lc (own := [("size", 2)]) rfl sc_are_boxes.nd (di_it (de_name 3)) (blkOk_by (by kernel_rfl)) (fun _ _ _ _ _ => (pg_name (i := 2) sc_are_boxes.nd rfl (by first | exact .inl rfl | exact .inr rfl))) (tq_one 2) (fun _ _ _ _ _ => dts_nil) (fun _ _ _ _ _ => (de_and (de_call (ok_is_integer g) (hr.mono (by omega)) g.g_is_integer g.F_is_integer.kp g.b_is_integer takes0 (da_cons (de_name 2) da_nil)) (de_one (de_chain de_int (ch_link op_le pr_cmp (de_name 2) (ch_last op_le pr_cmp (de_glob (v := .int 1000000000) rfl g.c_GREATEST ⟨_, rfl⟩ fun _ => Dp.int _))))))) (by decide)) da_nil)))) (dss_one (ds_ret de_bl)) dss_nil)))) (dss_one (ds_ret de_bl))))
/-! ### fewest -/
abbrev s_fewest : Stmt := topS 14
theorem sc_fewest : FnScope ["shapes", "found", "shape"] ["shapes"] (defScope s_fewest) := ⟨rfl, rfl, rfl, by decide +kernel, rfl, by decide +kernel, by decide +kernel⟩
def B_fewest : FS := (fSeq (fSetO 1 (fLst faNil)) (fSeq (fFor (fIt (fI (fCall hSorted (faCons (fName 0) faNil)))) (gOne 2) (fIfS (fOr (fTr (f2 hEq (fCall hLen (faCons (fName 1) faNil)) (fImm (.int 0)))) (fTr (f2 hLt (f2 hIx (fName 2) (fImm (.int 1))) (f2 hIx (f2 hIx (fName 1) (f1 hNeg (fImm (.int 1)))) (fImm (.int 1)))))) (fApp 1 (fName 2)) fNx)) (fRet (fName 1))))
def F_fewest : List AV → RF := mkF 1 3 B_fewest
theorem ok_fewest (g : G K mg) : FnOk P w K mg base (L2.CX P w) 1 g.a_fewest g.d_fewest ["shapes"] (spD K (Cn g) fld F_fewest) :=
  fn_okD (k := 0) g.F_fewest sc_fewest fun cdv A outer s H E Z B0 L hr => (dss_cons (ds_setO 1 sc_fewest.nd (de_lst da_nil)) (dss_cons (ds_for (passes_of rfl) rfl (di_it (de_imm (de_callB (cr_sortD hr.units) pr_sorted rfl g.z_sorted PyProof.Rows.boot_sorted (da_cons (de_name 0) da_nil)))) (pg_name (i := 2) sc_fewest.nd rfl (by first | exact .inl rfl | exact .inr rfl)) (tq_one 2) (dss_one (ds_if (PW.pt (dw_or (dt_cmp (op_eqD hr.units) pr_eq (de_callB call_len_seq pr_len rfl g.z_len PySem.boot_len (da_cons (de_name 1) da_nil)) de_int (nomark _)) (dw_or1 (dt_cmp op_lt pr_cmp (de_ix ix_seq pr_ix (de_name 2) de_int (fun _ _ => rfl)) (de_ix ix_seq pr_ix (de_ix ix_seq pr_ix (de_name 1) (de_un un_neg pr_neg de_int) (fun _ _ => rfl)) de_int (fun _ _ => rfl)) (nomark _))))) (dss_one (ds_app 1 (de_name 2) (ht := pe_bm PySem.F.plainAttrs_list PySem.F.slot_list_append PySem.F.type_list_append mt_append (pv 1) (pa_cons (de_imm (de_name 2)) pa_nil)))) dss_nil))) (dss_one (ds_ret (de_name 1)))))
/-! ### put_together -/
abbrev s_put_together : Stmt := topS 15
theorem sc_put_together : FnScope ["kind", "one", "other"] ["kind", "one", "other"] (defScope s_put_together) := ⟨rfl, rfl, rfl, by decide +kernel, rfl, by decide +kernel, by decide +kernel⟩
def B_put_together : FS := (fSeq (fIfS (fTr (f2 hEq (fName 0) (fImm (.str "up")))) (fRet (fTup (faCons (fI (f2 hAdd (f2 hIx (fName 1) (fImm (.int 0))) (f2 hIx (fName 2) (fImm (.int 0))))) (faCons (fCall hMax (faCons (f2 hIx (fName 1) (fImm (.int 1))) (faCons (f2 hIx (fName 2) (fImm (.int 1))) faNil))) (faCons (fI (f2 hAdd (f2 hIx (fName 1) (fImm (.int 2))) (f2 hIx (fName 2) (fImm (.int 2))))) faNil))))) fNx) (fRet (fTup (faCons (fCall hMax (faCons (f2 hIx (fName 1) (fImm (.int 0))) (faCons (f2 hIx (fName 2) (fImm (.int 0))) faNil))) (faCons (fI (f2 hAdd (f2 hIx (fName 1) (fImm (.int 1))) (f2 hIx (fName 2) (fImm (.int 1))))) (faCons (fI (f2 hAdd (f2 hIx (fName 1) (fImm (.int 2))) (f2 hIx (fName 2) (fImm (.int 2))))) faNil))))))
def F_put_together : List AV → RF := mkF 3 3 B_put_together
theorem ok_put_together (g : G K mg) : FnOk P w K mg base (L2.CX P w) 1 g.a_put_together g.d_put_together ["kind", "one", "other"] (spD K (Cn g) fld F_put_together) :=
  fn_okD (k := 0) g.F_put_together sc_put_together fun cdv A outer s H E Z B0 L hr => (dss_cons (ds_if (dt_cmp (op_eqD hr.units) pr_eq (de_name 0) de_str (nomark _)) (dss_one (ds_ret (de_tup (da_cons (de_imm (de_bin op_addD pr_add (de_ix ix_seq pr_ix (de_name 1) de_int (fun _ _ => rfl)) (de_ix ix_seq pr_ix (de_name 2) de_int (fun _ _ => rfl)))) (da_cons (de_callB (callR_or (cr_max rfl) (call_max2 rfl)) pr_max rfl g.z_max PyProof.Rows.boot_max (da_cons (de_ix ix_seq pr_ix (de_name 1) de_int (fun _ _ => rfl)) (da_cons (de_ix ix_seq pr_ix (de_name 2) de_int (fun _ _ => rfl)) da_nil))) (da_cons (de_imm (de_bin op_addD pr_add (de_ix ix_seq pr_ix (de_name 1) de_int (fun _ _ => rfl)) (de_ix ix_seq pr_ix (de_name 2) de_int (fun _ _ => rfl)))) da_nil)))))) dss_nil) (dss_one (ds_ret (de_tup (da_cons (de_callB (callR_or (cr_max rfl) (call_max2 rfl)) pr_max rfl g.z_max PyProof.Rows.boot_max (da_cons (de_ix ix_seq pr_ix (de_name 1) de_int (fun _ _ => rfl)) (da_cons (de_ix ix_seq pr_ix (de_name 2) de_int (fun _ _ => rfl)) da_nil))) (da_cons (de_imm (de_bin op_addD pr_add (de_ix ix_seq pr_ix (de_name 1) de_int (fun _ _ => rfl)) (de_ix ix_seq pr_ix (de_name 2) de_int (fun _ _ => rfl)))) (da_cons (de_imm (de_bin op_addD pr_add (de_ix ix_seq pr_ix (de_name 1) de_int (fun _ _ => rfl)) (de_ix ix_seq pr_ix (de_name 2) de_int (fun _ _ => rfl)))) da_nil)))))))
/-! ### shapes_of -/
abbrev s_shapes_of : Stmt := topS 16
theorem sc_shapes_of : FnScope ["tree", "sizes", "one", "other", "kind", "before", "more", "wide", "high", "behind"] ["tree", "sizes"] (defScope s_shapes_of) := ⟨rfl, rfl, rfl, by decide +kernel, rfl, by decide +kernel, by decide +kernel⟩
def B_shapes_of (F : List AV → RF) : FS := (fSeq (fIfS (fTr (fCallF F_is_integer (faCons (fName 0) faNil))) (fSeq (fTgt (gMany [7, 8]) (f2 hIx (fName 1) (fName 0))) (fRet (fCallF F_fewest (faCons (fI (fLst (faCons (fTup (faCons (fName 7) (faCons (fName 8) (faCons (fTup faNil) faNil)))) (faCons (fTup (faCons (fName 8) (faCons (fName 7) (faCons (fTup (faCons (fName 0) faNil)) faNil)))) faNil)))) faNil)))) fNx) (fSeq (fTgt (gMany [4, 5, 9]) (fName 0)) (fSeq (fSetI 6 (fCallF F (faCons (fName 9) (faCons (fName 1) faNil)))) (fRet (fCallF F_fewest (faCons (fI (fLc2 (fIt (fI (fCallF F (faCons (fName 5) (faCons (fName 1) faNil))))) [2, 3] (gOne 2) fYes (fIt (fName 6)) [3] (gOne 3) fYes (fI (fCallF F_put_together (faCons (fName 4) (faCons (fName 2) (faCons (fName 3) faNil))))))) faNil))))))
def F_shapes_of : Nat → List AV → RF
  | 0 => fun _ => .no
  | n + 1 => mkF 2 10 (B_shapes_of (F_shapes_of n))
theorem ok_shapes_of (g : G K mg) : ∀ n, FnOk P w K mg base (L2.CX P w) (1 + n) g.a_shapes_of g.d_shapes_of ["tree", "sizes"] (spD K (Cn g) fld (F_shapes_of n))
  | 0 => fn_noD (k := 0) g.F_shapes_of sc_shapes_of
  | n + 1 => by
    have ih := ok_shapes_of g n
    exact fn_okD (k := 1 + n) g.F_shapes_of sc_shapes_of fun cdv A outer s H E Z B0 L hr => (dss_cons (ds_if (dt_val (de_call (ok_is_integer g) (hr.mono (by omega)) g.g_is_integer g.F_is_integer.kp g.b_is_integer (takes_of rfl rfl rfl rfl) (da_cons (de_name 0) da_nil))) (dss_cons (ds_tgt (de_ix ix_seq pr_ix (de_name 1) (de_name 0) (fun _ _ => rfl)) (pg_tup rfl (pgs_cons (pg_name (i := 7) sc_shapes_of.nd rfl (by first | exact .inl rfl | exact .inr rfl)) (pgs_cons (pg_name (i := 8) sc_shapes_of.nd rfl (by first | exact .inl rfl | exact .inr rfl)) pgs_nil))) (tq_many (tqs_cons 7 (tqs_cons 8 tqs_nil)))) (dss_one (ds_ret (de_call (ok_fewest g) (hr.mono (by omega)) g.g_fewest g.F_fewest.kp g.b_fewest (takes_of rfl rfl rfl rfl) (da_cons (de_imm (de_lst (da_cons (de_tup (da_cons (de_name 7) (da_cons (de_name 8) (da_cons (de_tup da_nil) da_nil)))) (da_cons (de_tup (da_cons (de_name 8) (da_cons (de_name 7) (da_cons (de_tup (da_cons (de_name 0) da_nil)) da_nil)))) da_nil)))) da_nil))))) dss_nil) (dss_cons (ds_tgt (de_name 0) (pg_tup rfl (pgs_cons (pg_name (i := 4) sc_shapes_of.nd rfl (by first | exact .inl rfl | exact .inr rfl)) (pgs_cons (pg_name (i := 5) sc_shapes_of.nd rfl (by first | exact .inl rfl | exact .inr rfl)) (pgs_cons (pg_name (i := 9) sc_shapes_of.nd rfl (by first | exact .inl rfl | exact .inr rfl)) pgs_nil)))) (tq_many (tqs_cons 4 (tqs_cons 5 (tqs_cons 9 tqs_nil))))) (dss_cons (ds_setI 6 sc_shapes_of.nd (de_call (ih) (hr.mono (by omega)) g.g_shapes_of g.F_shapes_of.kp g.b_shapes_of (takes_of rfl rfl rfl rfl) (da_cons (de_name 9) (da_cons (de_name 1) da_nil)))) (dss_one (ds_ret (de_call (ok_fewest g) (hr.mono (by omega)) g.g_fewest g.F_fewest.kp g.b_fewest (takes_of rfl rfl rfl rfl) (da_cons (de_imm (de_lc2 (own := [("one", 2), ("other", 3)]) (vs1 := [3]) rfl sc_shapes_of.nd (di_it (de_imm (de_call (ih) (hr.mono (by omega)) g.g_shapes_of g.F_shapes_of.kp g.b_shapes_of (takes_of rfl rfl rfl rfl) (da_cons (de_name 5) (da_cons (de_name 1) da_nil))))) (blkOk_by (by kernel_rfl)) (by decide) (fun _ _ _ _ _ => (pg_name (i := 2) sc_shapes_of.nd rfl (by first | exact .inl rfl | exact .inr rfl))) (tq_one 2) (fun _ _ _ _ _ => dts_nil) (fun _ _ _ _ _ => (di_it (de_name 6))) (fun _ _ _ _ _ => (pg_name (i := 3) sc_shapes_of.nd rfl (by first | exact .inl rfl | exact .inr rfl))) (tq_one 3) (fun _ _ _ _ _ => dts_nil) (fun _ _ _ _ _ => (de_imm (de_call (ok_put_together g) (hr.mono (by omega)) g.g_put_together g.F_put_together.kp g.b_put_together takes0 (da_cons (de_name 4) (da_cons (de_name 2) (da_cons (de_name 3) da_nil)))))) (by decide) (by decide))) da_nil)))))))
/-! ### shapes -/
abbrev s_shapes : Stmt := topS 17
theorem sc_shapes : FnScope ["tree", "sizes", "wide", "high", "turned"] ["tree", "sizes"] (defScope s_shapes) := ⟨rfl, rfl, rfl, by decide +kernel, rfl, by decide +kernel, by decide +kernel⟩
def B_shapes : FS := (fSeq (fIfS (fNot (fTr (fCallF F_is_tree (faCons (fName 0) faNil)))) (fRaise0 2) fNx) (fSeq (fIfS (fNot (fTr (fCallF F_are_boxes (faCons (fName 1) (faCons (fCall hLen (faCons (fCallF (F_rooms_in 12) (faCons (fName 0) faNil)) faNil)) faNil))))) (fRaise0 1) fNx) (fRet (fLc (fIt (fI (fCallF (F_shapes_of 12) (faCons (fName 0) (faCons (fName 1) faNil))))) [2, 3, 4] (gMany [2, 3, 4]) fYes (fTup (faCons (fName 2) (faCons (fName 3) (faCons (fCall hTuple (faCons (fCall hSorted (faCons (fName 4) faNil)) faNil)) faNil))))))))
def F_shapes : List AV → RF := mkF 2 5 B_shapes
theorem ok_shapes (g : G K mg) : FnOk P w K mg base (L2.CX P w) 15 g.a_shapes g.d_shapes ["tree", "sizes"] (spD K (Cn g) fld F_shapes) :=
  fn_okD (k := 14) g.F_shapes sc_shapes fun cdv A outer s H E Z B0 L hr => (dss_cons (ds_if (dt_not (dt_val (de_call (ok_is_tree g) (hr.mono (by omega)) g.g_is_tree g.F_is_tree.kp g.b_is_tree (takes_of rfl rfl rfl rfl) (da_cons (de_name 0) da_nil)))) (dss_one (ds_raise0 (n := 2) rfl (takes_of rfl rfl rfl rfl) rfl (pmk_own0 PySem.F.excBase_ValueError g.q_NoTree g.g_NoTree g.k_NoTree (raises_own g.s_NoTree g.t_NoTree) rfl))) dss_nil) (dss_cons (ds_if (dt_not (dt_val (de_call (ok_are_boxes g) (hr.mono (by omega)) g.g_are_boxes g.F_are_boxes.kp g.b_are_boxes (takes_of rfl rfl rfl rfl) (da_cons (de_name 1) (da_cons (de_callB call_len_seq pr_len rfl g.z_len PySem.boot_len (da_cons (de_call (ok_rooms_in g 12) (hr.mono (by omega)) g.g_rooms_in g.F_rooms_in.kp g.b_rooms_in (takes_of rfl rfl rfl rfl) (da_cons (de_name 0) da_nil)) da_nil)) da_nil))))) (dss_one (ds_raise0 (n := 1) rfl (takes_of rfl rfl rfl rfl) rfl (pmk_own0 PySem.F.excBase_ValueError g.q_NoSizes g.g_NoSizes g.k_NoSizes (raises_own g.s_NoSizes g.t_NoSizes) rfl))) dss_nil) (dss_one (ds_ret (de_lc (own := [("wide", 2), ("high", 3), ("turned", 4)]) rfl sc_shapes.nd (di_it (de_imm (de_call (ok_shapes_of g 12) (hr.mono (by omega)) g.g_shapes_of g.F_shapes_of.kp g.b_shapes_of (takes_of rfl rfl rfl rfl) (da_cons (de_name 0) (da_cons (de_name 1) da_nil))))) (blkOk_by (by kernel_rfl)) (fun _ _ _ _ _ => (pg_tup rfl (pgs_cons (pg_name (i := 2) sc_shapes.nd rfl (by first | exact .inl rfl | exact .inr rfl)) (pgs_cons (pg_name (i := 3) sc_shapes.nd rfl (by first | exact .inl rfl | exact .inr rfl)) (pgs_cons (pg_name (i := 4) sc_shapes.nd rfl (by first | exact .inl rfl | exact .inr rfl)) pgs_nil))))) (tq_many (tqs_cons 2 (tqs_cons 3 (tqs_cons 4 tqs_nil)))) (fun _ _ _ _ _ => dts_nil) (fun _ _ _ _ _ => (de_tup (da_cons (de_name 2) (da_cons (de_name 3) (da_cons (de_callTy call_tuple_of pr_tuple rfl g.z_tuple PyProof.Rows.boot_tuple (da_cons (de_callB (cr_sortD hr.units) pr_sorted rfl g.z_sorted PyProof.Rows.boot_sorted (da_cons (de_name 4) da_nil)) da_nil)) da_nil))))) (by decide))))))
/-! ### shape_with -/
abbrev s_shape_with : Stmt := topS 18
theorem sc_shape_with : FnScope ["tree", "sizes", "turned", "one", "other", "wide", "high"] ["tree", "sizes", "turned"] (defScope s_shape_with) := ⟨rfl, rfl, rfl, by decide +kernel, rfl, by decide +kernel, by decide +kernel⟩
def B_shape_with (F : List AV → RF) : FS := (fSeq (fIfS (fTr (fCallF F_is_integer (faCons (fName 0) faNil))) (fSeq (fTgt (gMany [5, 6]) (f2 hIx (fName 1) (fName 0))) (fRet (fIf (fTr (f2 (hIn false) (fName 0) (fName 2))) (fTup (faCons (fName 6) (faCons (fName 5) faNil))) (fTup (faCons (fName 5) (faCons (fName 6) faNil)))))) fNx) (fSeq (fPar2 3 4 false false (fI (fCallF F (faCons (f2 hIx (fName 0) (fImm (.int 1))) (faCons (fName 1) (faCons (fName 2) faNil))))) (fI (fCallF F (faCons (f2 hIx (fName 0) (fImm (.int 2))) (faCons (fName 1) (faCons (fName 2) faNil)))))) (fSeq (fIfS (fTr (f2 hEq (f2 hIx (fName 0) (fImm (.int 0))) (fImm (.str "up")))) (fRet (fTup (faCons (fI (f2 hAdd (f2 hIx (fName 3) (fImm (.int 0))) (f2 hIx (fName 4) (fImm (.int 0))))) (faCons (fCall hMax (faCons (f2 hIx (fName 3) (fImm (.int 1))) (faCons (f2 hIx (fName 4) (fImm (.int 1))) faNil))) faNil)))) fNx) (fRet (fTup (faCons (fCall hMax (faCons (f2 hIx (fName 3) (fImm (.int 0))) (faCons (f2 hIx (fName 4) (fImm (.int 0))) faNil))) (faCons (fI (f2 hAdd (f2 hIx (fName 3) (fImm (.int 1))) (f2 hIx (fName 4) (fImm (.int 1))))) faNil)))))))
def F_shape_with : Nat → List AV → RF
  | 0 => fun _ => .no
  | n + 1 => mkF 3 7 (B_shape_with (F_shape_with n))
theorem ok_shape_with (g : G K mg) : ∀ n, FnOk P w K mg base (L2.CX P w) (1 + n) g.a_shape_with g.d_shape_with ["tree", "sizes", "turned"] (spD K (Cn g) fld (F_shape_with n))
  | 0 => fn_noD (k := 0) g.F_shape_with sc_shape_with
  | n + 1 => by
    have ih := ok_shape_with g n
    exact fn_okD (k := 1 + n) g.F_shape_with sc_shape_with fun cdv A outer s H E Z B0 L hr => (dss_cons (ds_if (dt_val (de_call (ok_is_integer g) (hr.mono (by omega)) g.g_is_integer g.F_is_integer.kp g.b_is_integer (takes_of rfl rfl rfl rfl) (da_cons (de_name 0) da_nil))) (dss_cons (ds_tgt (de_ix ix_seq pr_ix (de_name 1) (de_name 0) (fun _ _ => rfl)) (pg_tup rfl (pgs_cons (pg_name (i := 5) sc_shape_with.nd rfl (by first | exact .inl rfl | exact .inr rfl)) (pgs_cons (pg_name (i := 6) sc_shape_with.nd rfl (by first | exact .inl rfl | exact .inr rfl)) pgs_nil))) (tq_many (tqs_cons 5 (tqs_cons 6 tqs_nil)))) (dss_one (ds_ret (de_if (dt_cmp (op_mem (hu65 hr)) pr_in (de_name 0) (de_name 2) (by rfl)) (de_tup (da_cons (de_name 6) (da_cons (de_name 5) da_nil))) (de_tup (da_cons (de_name 5) (da_cons (de_name 6) da_nil))))))) dss_nil) (dss_cons (ds_par2 3 4 false false rfl sc_shape_with.nd (de_imm (de_call (ih) (hr.mono (by omega)) g.g_shape_with g.F_shape_with.kp g.b_shape_with (takes_of rfl rfl rfl rfl) (da_cons (de_ix ix_seq pr_ix (de_name 0) de_int (fun _ _ => rfl)) (da_cons (de_name 1) (da_cons (de_name 2) da_nil))))) (de_imm (de_call (ih) (hr.mono (by omega)) g.g_shape_with g.F_shape_with.kp g.b_shape_with (takes_of rfl rfl rfl rfl) (da_cons (de_ix ix_seq pr_ix (de_name 0) de_int (fun _ _ => rfl)) (da_cons (de_name 1) (da_cons (de_name 2) da_nil))))) (by decide)) (dss_cons (ds_if (dt_cmp (op_eqD hr.units) pr_eq (de_ix ix_seq pr_ix (de_name 0) de_int (fun _ _ => rfl)) de_str (nomark _)) (dss_one (ds_ret (de_tup (da_cons (de_imm (de_bin op_addD pr_add (de_ix ix_seq pr_ix (de_name 3) de_int (fun _ _ => rfl)) (de_ix ix_seq pr_ix (de_name 4) de_int (fun _ _ => rfl)))) (da_cons (de_callB (callR_or (cr_max rfl) (call_max2 rfl)) pr_max rfl g.z_max PyProof.Rows.boot_max (da_cons (de_ix ix_seq pr_ix (de_name 3) de_int (fun _ _ => rfl)) (da_cons (de_ix ix_seq pr_ix (de_name 4) de_int (fun _ _ => rfl)) da_nil))) da_nil))))) dss_nil) (dss_one (ds_ret (de_tup (da_cons (de_callB (callR_or (cr_max rfl) (call_max2 rfl)) pr_max rfl g.z_max PyProof.Rows.boot_max (da_cons (de_ix ix_seq pr_ix (de_name 3) de_int (fun _ _ => rfl)) (da_cons (de_ix ix_seq pr_ix (de_name 4) de_int (fun _ _ => rfl)) da_nil))) (da_cons (de_imm (de_bin op_addD pr_add (de_ix ix_seq pr_ix (de_name 3) de_int (fun _ _ => rfl)) (de_ix ix_seq pr_ix (de_name 4) de_int (fun _ _ => rfl)))) da_nil))))))))
/-! ### is_rooms_lot -/
abbrev s_is_rooms_lot : Stmt := topS 19
theorem sc_is_rooms_lot : FnScope ["thing", "many", "room", "at"] ["thing", "many"] (defScope s_is_rooms_lot) := ⟨rfl, rfl, rfl, by decide +kernel, rfl, by decide +kernel, by decide +kernel⟩
def B_is_rooms_lot : FS := (fSeq (fIfS (fOr (fNot (fTr (f1 (hIs .tuple) (fName 0)))) (fNot (fTr (fCall hAll (faCons (fLc (fIt (fName 0)) [2] (gOne 2) fYes (fAndV (fCallF F_is_integer (faCons (fName 2) faNil)) (fChain (fImm (.int 0)) (fcLink hLe (fName 2) (fcLast hLt (fName 1)))))) faNil))))) (fRet (fImm (.bool false))) fNx) (fRet (fCall hAll (faCons (fLc (fRng2 (faCons (fImm (.int 1)) (faCons (fCall hLen (faCons (fName 0) faNil)) faNil))) [3] (gOne 3) fYes (f2 hLt (f2 hIx (fName 0) (f2 hSub (fName 3) (fImm (.int 1)))) (f2 hIx (fName 0) (fName 3)))) faNil))))
def F_is_rooms_lot : List AV → RF := mkF 2 4 B_is_rooms_lot
theorem ok_is_rooms_lot (g : G K mg) : FnOk P w K mg base (L2.CX P w) 2 g.a_is_rooms_lot g.d_is_rooms_lot ["thing", "many"] (spD K (Cn g) fld F_is_rooms_lot) :=
  fn_okD (k := 1) g.F_is_rooms_lot sc_is_rooms_lot fun cdv A outer s H E Z B0 L hr => (dss_cons (ds_if (PW.pt (dw_or (dt_not (dt_val (de_isi .tuple rfl rfl g.z_isinstance rfl g.z_tuple PyProof.Rows.boot_tuple (de_name 0)))) (dw_or1 (dt_not (dt_val (de_callB (cr_all rfl) pr_all rfl g.z_all PyProof.Rows.boot_all (da_cons (de_lc (own := [("room", 2)]) rfl sc_is_rooms_lot.nd (di_it (de_name 0)) (blkOk_by (by kernel_rfl)) (fun _ _ _ _ _ => (pg_name (i := 2) sc_is_rooms_lot.nd rfl (by first | exact .inl rfl | exact .inr rfl))) (tq_one 2) (fun _ _ _ _ _ => dts_nil) (fun _ _ _ _ _ => (de_and (de_call (ok_is_integer g) (hr.mono (by omega)) g.g_is_integer g.F_is_integer.kp g.b_is_integer takes0 (da_cons (de_name 2) da_nil)) (de_one (de_chain de_int (ch_link op_le pr_cmp (de_name 2) (ch_last op_lt pr_cmp (de_name 1))))))) (by decide)) da_nil))))))) (dss_one (ds_ret de_bl)) dss_nil) (dss_one (ds_ret (de_callB (cr_all rfl) pr_all rfl g.z_all PyProof.Rows.boot_all (da_cons (de_lc (own := [("at", 3)]) rfl sc_is_rooms_lot.nd (di_rng2 rfl g.z_range (da_cons de_int (da_cons (de_callB call_len_seq pr_len rfl g.z_len PySem.boot_len (da_cons (de_name 0) da_nil)) da_nil))) (blkOk_by (by kernel_rfl)) (fun _ _ _ _ _ => (pg_name (i := 3) sc_is_rooms_lot.nd rfl (by first | exact .inl rfl | exact .inr rfl))) (tq_one 3) (fun _ _ _ _ _ => dts_nil) (fun _ _ _ _ _ => (de_cmp op_lt pr_cmp (de_ix ix_seq pr_ix (de_name 0) (de_bin op_sub pr_sub (de_name 3) de_int) (fun _ _ => rfl)) (de_ix ix_seq pr_ix (de_name 0) (de_name 3) (fun _ _ => rfl)) (nomark _))) (by decide)) da_nil)))))
/-! ### are_shapes -/
abbrev s_are_shapes : Stmt := topS 20
theorem sc_are_shapes : FnScope ["tree", "sizes", "thing", "told", "size", "shape", "due"] ["tree", "sizes", "thing"] (defScope s_are_shapes) := ⟨rfl, rfl, rfl, by decide +kernel, rfl, by decide +kernel, by decide +kernel⟩
def B_are_shapes : FS := (fSeq (fSetI 6 (fCallF F_shapes (faCons (fName 0) (faCons (fName 1) faNil)))) (fSeq (fIfS (fOr (fNot (fTr (f1 (hIs .list) (fName 2)))) (fTr (f2 hNe (fCall hLen (faCons (fName 2) faNil)) (fCall hLen (faCons (fName 6) faNil))))) (fRet (fImm (.bool false))) fNx) (fSeq (fFor (fZip (faCons (fName 2) (faCons (fName 6) faNil))) (gMany [3, 5]) (fSeq (fIfS (fOr (fNot (fTr (f1 (hIs .tuple) (fName 3)))) (fOr (fTr (f2 hNe (fCall hLen (faCons (fName 3) faNil)) (fImm (.int 3)))) (fNot (fTr (fCallF F_is_rooms_lot (faCons (f2 hIx (fName 3) (fImm (.int 2))) (faCons (fCall hLen (faCons (fName 1) faNil)) faNil))))))) (fRet (fImm (.bool false))) fNx) (fSeq (fIfS (fNot (fTr (fCall hAll (faCons (fLc (fIt (fI (fSl (fName 3) foNone (foSome (fImm (.int 2)))))) [4] (gOne 4) fYes (fI (fCallF F_is_integer (faCons (fName 4) faNil)))) faNil)))) (fRet (fImm (.bool false))) fNx) (fIfS (fOr (fTr (f2 hNe (fSl (fName 3) foNone (foSome (fImm (.int 2)))) (fSl (fName 5) foNone (foSome (fImm (.int 2)))))) (fTr (f2 hNe (fCallF (F_shape_with 12) (faCons (fName 0) (faCons (fName 1) (faCons (f2 hIx (fName 3) (fImm (.int 2))) faNil)))) (fSl (fName 3) foNone (foSome (fImm (.int 2))))))) (fRet (fImm (.bool false))) fNx)))) (fRet (fImm (.bool true))))))
def F_are_shapes : List AV → RF := mkF 3 7 B_are_shapes
theorem ok_are_shapes (g : G K mg) : FnOk P w K mg base (L2.CX P w) 16 g.a_are_shapes g.d_are_shapes ["tree", "sizes", "thing"] (spD K (Cn g) fld F_are_shapes) :=
  fn_okD (k := 15) g.F_are_shapes sc_are_shapes fun cdv A outer s H E Z B0 L hr => (dss_cons (ds_setI 6 sc_are_shapes.nd (de_call (ok_shapes g) (hr.mono (by omega)) g.g_shapes g.F_shapes.kp g.b_shapes (takes_of rfl rfl rfl rfl) (da_cons (de_name 0) (da_cons (de_name 1) da_nil)))) (dss_cons (ds_if (PW.pt (dw_or (dt_not (dt_val (de_isi .list rfl rfl g.z_isinstance rfl g.z_list PyProof.Rows.boot_list (de_name 2)))) (dw_or1 (dt_cmp (op_neD hr.units) pr_ne (de_callB call_len_seq pr_len rfl g.z_len PySem.boot_len (da_cons (de_name 2) da_nil)) (de_callB call_len_seq pr_len rfl g.z_len PySem.boot_len (da_cons (de_name 6) da_nil)) (nomark _))))) (dss_one (ds_ret de_bl)) dss_nil) (dss_cons (ds_for (passes_of rfl) rfl (di_zip rfl g.z_zip (da_cons (de_name 2) (da_cons (de_name 6) da_nil))) (pg_tup rfl (pgs_cons (pg_name (i := 3) sc_are_shapes.nd rfl (by first | exact .inl rfl | exact .inr rfl)) (pgs_cons (pg_name (i := 5) sc_are_shapes.nd rfl (by first | exact .inl rfl | exact .inr rfl)) pgs_nil))) (tq_many (tqs_cons 3 (tqs_cons 5 tqs_nil))) (dss_cons (ds_if (PW.pt (dw_or (dt_not (dt_val (de_isi .tuple rfl rfl g.z_isinstance rfl g.z_tuple PyProof.Rows.boot_tuple (de_name 3)))) (dw_or (dt_cmp (op_neD hr.units) pr_ne (de_callB call_len_seq pr_len rfl g.z_len PySem.boot_len (da_cons (de_name 3) da_nil)) de_int (nomark _)) (dw_or1 (dt_not (dt_val (de_call (ok_is_rooms_lot g) (hr.mono (by omega)) g.g_is_rooms_lot g.F_is_rooms_lot.kp g.b_is_rooms_lot (takes_of rfl rfl rfl rfl) (da_cons (de_ix ix_seq pr_ix (de_name 3) de_int (fun _ _ => rfl)) (da_cons (de_callB call_len_seq pr_len rfl g.z_len PySem.boot_len (da_cons (de_name 1) da_nil)) da_nil))))))))) (dss_one (ds_ret de_bl)) dss_nil) (dss_cons (ds_if (dt_not (dt_val (de_callB (cr_all rfl) pr_all rfl g.z_all PyProof.Rows.boot_all (da_cons (de_lc (own := [("size", 4)]) rfl sc_are_shapes.nd (di_it (de_imm (de_slice (de_name 3) do_none (do_some de_int)))) (blkOk_by (by kernel_rfl)) (fun _ _ _ _ _ => (pg_name (i := 4) sc_are_shapes.nd rfl (by first | exact .inl rfl | exact .inr rfl))) (tq_one 4) (fun _ _ _ _ _ => dts_nil) (fun _ _ _ _ _ => (de_imm (de_call (ok_is_integer g) (hr.mono (by omega)) g.g_is_integer g.F_is_integer.kp g.b_is_integer takes0 (da_cons (de_name 4) da_nil)))) (by decide)) da_nil)))) (dss_one (ds_ret de_bl)) dss_nil) (dss_one (ds_if (PW.pt (dw_or (dt_cmp (op_neD hr.units) pr_ne (de_slice (de_name 3) do_none (do_some de_int)) (de_slice (de_name 5) do_none (do_some de_int)) (nomark _)) (dw_or1 (dt_cmp (op_neD hr.units) pr_ne (de_call (ok_shape_with g 12) (hr.mono (by omega)) g.g_shape_with g.F_shape_with.kp g.b_shape_with (takes_of rfl rfl rfl rfl) (da_cons (de_name 0) (da_cons (de_name 1) (da_cons (de_ix ix_seq pr_ix (de_name 3) de_int (fun _ _ => rfl)) da_nil)))) (de_slice (de_name 3) do_none (do_some de_int)) (nomark _))))) (dss_one (ds_ret de_bl)) dss_nil))))) (dss_one (ds_ret de_bl)))))
/-! ### _law_hand -/
abbrev s__law_hand : Stmt := topS 22
theorem sc__law_hand : FnScope ["script", "cell", "cells"] ["script"] (defScope s__law_hand) := ⟨rfl, rfl, rfl, by decide +kernel, rfl, by decide +kernel, by decide +kernel⟩
def B__law_hand : FS := (fSeq (fSetI 2 (fLc (fIt (fI (fSl (fName 0) foNone (foSome (fImm (.int 63)))))) [1] (gOne 1) fYes (fCall hAbs (faCons (fCall hInt (faCons (fName 1) faNil)) faNil)))) (fRet (fLst (faCons (fName 2) (faCons (fImm (.int 0)) (faCons (fImm (.int 0)) (faCons (fI (f2 hAdd (fImm (.int 31)) (f2 hMul (fImm (.int 7)) (fCall hLen (faCons (fName 2) faNil))))) (faCons (fImm (.int 0)) faNil))))))))
def F__law_hand : List AV → RF := mkF 1 3 B__law_hand
theorem ok__law_hand (g : G K mg) : FnOk P w K mg base (L2.CX P w) 1 g.a__law_hand g.d__law_hand ["script"] (spD K (Cn g) fld F__law_hand) :=
  fn_okD (k := 0) g.F__law_hand sc__law_hand fun cdv A outer s H E Z B0 L hr => (dss_cons (ds_lcI 2 (own := [("cell", 1)]) rfl sc__law_hand.nd (di_it (de_imm (de_slice (de_name 0) do_none (do_some de_int)))) (blkOk_by (by kernel_rfl)) (fun _ _ _ _ _ => (pg_name (i := 1) sc__law_hand.nd rfl (by first | exact .inl rfl | exact .inr rfl))) (tq_one 1) (fun _ _ _ _ _ => dts_nil) (fun _ _ _ _ _ => (de_callB call_abs pr_abs rfl g.z_abs PyProof.Rows.boot_abs (da_cons (de_callTy call_int1 pr_int rfl g.z_int PyProof.Rows.boot_int (da_cons (de_name 1) da_nil)) da_nil))) (by decide)) (dss_one (ds_ret (de_lst (da_cons (de_name 2) (da_cons de_int (da_cons de_int (da_cons (de_imm (de_bin op_addD pr_add de_int (de_bin op_mul pr_mul de_int (de_callB call_len_seq pr_len rfl g.z_len PySem.boot_len (da_cons (de_name 2) da_nil))))) (da_cons de_int da_nil)))))))))
/-! ### _law_draw -/
abbrev s__law_draw : Stmt := topS 23
theorem sc__law_draw : FnScope ["hand", "many", "number", "cell", "digit"] ["hand", "many"] (defScope s__law_draw) := ⟨rfl, rfl, rfl, by decide +kernel, rfl, by decide +kernel, by decide +kernel⟩
def B__law_draw : FS := (fSeq (fIfS (fAnd (fTr (f2 hEq (f2 hIx (fName 0) (fImm (.int 2))) (fImm (.int 0)))) (fTr (f2 hLt (f2 hIx (fName 0) (fImm (.int 1))) (fCall hLen (faCons (f2 hIx (fName 0) (fImm (.int 0))) faNil))))) (fSeq (fSetI 3 (f2 hIx (f2 hIx (fName 0) (fImm (.int 0))) (f2 hIx (fName 0) (fImm (.int 1))))) (fSeq (fSub 0 (fImm (.int 1)) (f2 hAdd (f2 hIx (fName 0) (fImm (.int 1))) (fImm (.int 1)))) (fSeq (fSub 0 (fImm (.int 3)) (f2 hMod (fCall hInt (faCons (f2 hAdd (f2 hAdd (f2 hMul (f2 hIx (fName 0) (fImm (.int 3))) (fImm (.int 48271))) (fName 3)) (fImm (.int 11))) faNil)) (fImm (.int 2147483647)))) (fIfS (fTr (f2 hGe (fName 3) (f2 hPow (fImm (.int 10)) (fImm (.int 18))))) (fSub 0 (fImm (.int 2)) (fName 3)) fNx)))) fNx) (fSeq (fIfS (fTr (f2 hGt (f2 hIx (fName 0) (fImm (.int 2))) (fImm (.int 0)))) (fSeq (fSetI 4 (f2 hMod (fCall hInt (faCons (f2 hIx (fName 0) (fImm (.int 2))) faNil)) (fName 1))) (fSeq (fSub 0 (fImm (.int 2)) (f2 hDiv (f2 hIx (fName 0) (fImm (.int 2))) (fName 1))) (fRet (fName 4)))) fNx) (fSeq (fSub 0 (fImm (.int 4)) (f2 hAdd (f2 hIx (fName 0) (fImm (.int 4))) (fImm (.int 1)))) (fSeq (fSetI 2 (f2 hMod (fCall hInt (faCons (f2 hMul (fCall hInt (faCons (f2 hAdd (f2 hIx (fName 0) (fImm (.int 3))) (f2 hMul (fImm (.int 6007)) (f2 hIx (fName 0) (fImm (.int 4))))) faNil)) (fImm (.int 69621))) faNil)) (fImm (.int 2147483629)))) (fSeq (fSetI 2 (f2 hMod (fCall hInt (faCons (f2 hMul (fName 2) (f2 hAdd (f2 hDiv (fName 2) (fImm (.int 1013))) (fImm (.int 48271)))) faNil)) (fImm (.int 2147483647)))) (fSeq (fSetI 2 (f2 hMod (fCall hInt (faCons (f2 hMul (fName 2) (f2 hAdd (f2 hDiv (fName 2) (fImm (.int 2011))) (fImm (.int 16807)))) faNil)) (fImm (.int 2147483587)))) (fRet (f2 hMod (fCall hInt (faCons (f2 hDiv (fName 2) (fImm (.int 32))) faNil)) (fName 1)))))))))
def F__law_draw : List AV → RF := mkF 2 5 B__law_draw
theorem ok__law_draw (g : G K mg) : FnOk P w K mg base (L2.CX P w) 1 g.a__law_draw g.d__law_draw ["hand", "many"] (spD K (Cn g) fld F__law_draw) :=
  fn_okD (k := 0) g.F__law_draw sc__law_draw fun cdv A outer s H E Z B0 L hr => (dss_cons (ds_if (PW.pt (dw_and (dt_cmp (op_eqD hr.units) pr_eq (de_ix ix_seq pr_ix (de_name 0) de_int (fun _ _ => rfl)) de_int (nomark _)) (dw_and1 (dt_cmp op_lt pr_cmp (de_ix ix_seq pr_ix (de_name 0) de_int (fun _ _ => rfl)) (de_callB call_len_seq pr_len rfl g.z_len PySem.boot_len (da_cons (de_ix ix_seq pr_ix (de_name 0) de_int (fun _ _ => rfl)) da_nil)) (nomark _))))) (dss_cons (ds_setI 3 sc__law_draw.nd (de_ix ix_seq pr_ix (de_ix ix_seq pr_ix (de_name 0) de_int (fun _ _ => rfl)) (de_ix ix_seq pr_ix (de_name 0) de_int (fun _ _ => rfl)) (fun _ _ => rfl))) (dss_cons (ds_sub 0 (de_bin op_addD pr_add (de_ix ix_seq pr_ix (de_name 0) de_int (fun _ _ => rfl)) de_int) de_int) (dss_cons (ds_sub 0 (de_bin op_modN pr_mod (de_callTy call_int1 pr_int rfl g.z_int PyProof.Rows.boot_int (da_cons (de_bin op_addD pr_add (de_bin op_addD pr_add (de_bin op_mul pr_mul (de_ix ix_seq pr_ix (de_name 0) de_int (fun _ _ => rfl)) de_int) (de_name 3)) de_int) da_nil)) de_int) de_int) (dss_one (ds_if (dt_cmp op_ge pr_cmp (de_name 3) (de_bin op_pow pr_pow de_int de_int) (nomark _)) (dss_one (ds_sub 0 (de_name 3) de_int)) dss_nil))))) dss_nil) (dss_cons (ds_if (dt_cmp op_gt pr_cmp (de_ix ix_seq pr_ix (de_name 0) de_int (fun _ _ => rfl)) de_int (nomark _)) (dss_cons (ds_setI 4 sc__law_draw.nd (de_bin op_modN pr_mod (de_callTy call_int1 pr_int rfl g.z_int PyProof.Rows.boot_int (da_cons (de_ix ix_seq pr_ix (de_name 0) de_int (fun _ _ => rfl)) da_nil)) (de_name 1))) (dss_cons (ds_sub 0 (de_bin op_fdivN pr_div (de_ix ix_seq pr_ix (de_name 0) de_int (fun _ _ => rfl)) (de_name 1)) de_int) (dss_one (ds_ret (de_name 4))))) dss_nil) (dss_cons (ds_sub 0 (de_bin op_addD pr_add (de_ix ix_seq pr_ix (de_name 0) de_int (fun _ _ => rfl)) de_int) de_int) (dss_cons (ds_setI 2 sc__law_draw.nd (de_bin op_modN pr_mod (de_callTy call_int1 pr_int rfl g.z_int PyProof.Rows.boot_int (da_cons (de_bin op_mul pr_mul (de_callTy call_int1 pr_int rfl g.z_int PyProof.Rows.boot_int (da_cons (de_bin op_addD pr_add (de_ix ix_seq pr_ix (de_name 0) de_int (fun _ _ => rfl)) (de_bin op_mul pr_mul de_int (de_ix ix_seq pr_ix (de_name 0) de_int (fun _ _ => rfl)))) da_nil)) de_int) da_nil)) de_int)) (dss_cons (ds_setI 2 sc__law_draw.nd (de_bin op_modN pr_mod (de_callTy call_int1 pr_int rfl g.z_int PyProof.Rows.boot_int (da_cons (de_bin op_mul pr_mul (de_name 2) (de_bin op_addD pr_add (de_bin op_fdivN pr_div (de_name 2) de_int) de_int)) da_nil)) de_int)) (dss_cons (ds_setI 2 sc__law_draw.nd (de_bin op_modN pr_mod (de_callTy call_int1 pr_int rfl g.z_int PyProof.Rows.boot_int (da_cons (de_bin op_mul pr_mul (de_name 2) (de_bin op_addD pr_add (de_bin op_fdivN pr_div (de_name 2) de_int) de_int)) da_nil)) de_int)) (dss_one (ds_ret (de_bin op_modN pr_mod (de_callTy call_int1 pr_int rfl g.z_int PyProof.Rows.boot_int (da_cons (de_bin op_fdivN pr_div (de_name 2) de_int) da_nil)) (de_name 1))))))))))
/-! ### _law_big -/
abbrev s__law_big : Stmt := topS 24
theorem sc__law_big : FnScope ["hand", "most", "found", "turn"] ["hand", "most"] (defScope s__law_big) := ⟨rfl, rfl, rfl, by decide +kernel, rfl, by decide +kernel, by decide +kernel⟩
def B__law_big : FS := (fSeq (fSetI 2 (fImm (.int 0))) (fSeq (fFor (fRng1 (faCons (fI (f2 hAdd (fImm (.int 1)) (f2 hDiv (fCall hLenS (faCons (fCall hStr (faCons (fName 1) faNil)) faNil)) (fImm (.int 6))))) faNil)) (gOne 3) (fSetI 2 (f2 hAdd (f2 hMul (fName 2) (f2 hPow (fImm (.int 10)) (fImm (.int 6)))) (fCallF F__law_draw (faCons (fName 0) (faCons (f2 hPow (fImm (.int 10)) (fImm (.int 6))) faNil)))))) (fRet (f2 hMod (fCall hInt (faCons (fName 2) faNil)) (fName 1)))))
def F__law_big : List AV → RF := mkF 2 4 B__law_big
theorem ok__law_big (g : G K mg) : FnOk P w K mg base (L2.CX P w) 2 g.a__law_big g.d__law_big ["hand", "most"] (spD K (Cn g) fld F__law_big) :=
  fn_okD (k := 1) g.F__law_big sc__law_big fun cdv A outer s H E Z B0 L hr => (dss_cons (ds_setI 2 sc__law_big.nd de_int) (dss_cons (ds_for (passes_of rfl) rfl (di_rng1 rfl g.z_range (da_cons (de_imm (de_bin op_addD pr_add de_int (de_bin op_fdivN pr_div (de_callB call_len_str pr_lenS rfl g.z_len PySem.boot_len (da_cons (de_callTy call_str_int pr_str rfl g.z_str PyProof.Rows.boot_str (da_cons (de_name 1) da_nil)) da_nil)) de_int))) da_nil)) (pg_name (i := 3) sc__law_big.nd rfl (by first | exact .inl rfl | exact .inr rfl)) (tq_one 3) (dss_one (ds_setI 2 sc__law_big.nd (de_bin op_addD pr_add (de_bin op_mul pr_mul (de_name 2) (de_bin op_pow pr_pow de_int de_int)) (de_call (ok__law_draw g) (hr.mono (by omega)) g.g__law_draw g.F__law_draw.kp g.b__law_draw (takes_of rfl rfl rfl rfl) (da_cons (de_name 0) (da_cons (de_bin op_pow pr_pow de_int de_int) da_nil))))))) (dss_one (ds_ret (de_bin op_modN pr_mod (de_callTy call_int1 pr_int rfl g.z_int PyProof.Rows.boot_int (da_cons (de_name 2) da_nil)) (de_name 1))))))
/-! ### _law_some -/
abbrev s__law_some : Stmt := topS 25
theorem sc__law_some : FnScope ["hand", "things"] ["hand", "things"] (defScope s__law_some) := ⟨rfl, rfl, rfl, by decide +kernel, rfl, by decide +kernel, by decide +kernel⟩
def B__law_some : FS := (fRet (f2 hIx (fName 1) (fCallF F__law_draw (faCons (fName 0) (faCons (fCall hLen (faCons (fName 1) faNil)) faNil)))))
def F__law_some : List AV → RF := mkF 2 2 B__law_some
theorem ok__law_some (g : G K mg) : FnOk P w K mg base (L2.CX P w) 2 g.a__law_some g.d__law_some ["hand", "things"] (spD K (Cn g) fld F__law_some) :=
  fn_okD (k := 1) g.F__law_some sc__law_some fun cdv A outer s H E Z B0 L hr => (dss_one (ds_ret (de_ix ix_seq pr_ix (de_name 1) (de_call (ok__law_draw g) (hr.mono (by omega)) g.g__law_draw g.F__law_draw.kp g.b__law_draw (takes_of rfl rfl rfl rfl) (da_cons (de_name 0) (da_cons (de_callB call_len_seq pr_len rfl g.z_len PySem.boot_len (da_cons (de_name 1) da_nil)) da_nil))) (fun _ _ => rfl))))
/-! ### _law_kept -/
abbrev s__law_kept : Stmt := topS 26
theorem sc__law_kept : FnScope ["told", "due", "at"] ["told", "due"] (defScope s__law_kept) := ⟨rfl, rfl, rfl, by decide +kernel, rfl, by decide +kernel, by decide +kernel⟩
def B__law_kept (F : List AV → RF) : FS := (fSeq (fIfS (fOr (fTr (f1 (hIs .tuple) (fName 1))) (fTr (f1 (hIs .list) (fName 1)))) (fSeq (fIfS (fOr (fTr (f2 hNe (f1 (hIs .tuple) (fName 0)) (f1 (hIs .tuple) (fName 1)))) (fTr (f2 hNe (f1 (hIs .list) (fName 0)) (f1 (hIs .list) (fName 1))))) (fRet (fImm (.bool false))) fNx) (fRet (fAndV (f2 hEq (fCall hLen (faCons (fName 0) faNil)) (fCall hLen (faCons (fName 1) faNil))) (fCall hAll (faCons (fLc (fRng1 (faCons (fCall hLen (faCons (fName 1) faNil)) faNil)) [2] (gOne 2) fYes (fI (fCallF F (faCons (f2 hIx (fName 0) (fName 2)) (faCons (f2 hIx (fName 1) (fName 2)) faNil))))) faNil))))) fNx) (fSeq (fIfS (fTr (f2 hIsN (fName 1) (fImm .none))) (fRet (f2 hIsN (fName 0) (fImm .none))) fNx) (fSeq (fIfS (fTr (f1 (hIs .bool) (fName 1))) (fRet (fIf (fTr (fName 1)) (f2 hIsB (fName 0) (fImm (.bool true))) (f2 hIsB (fName 0) (fImm (.bool false))))) fNx) (fSeq (fIfS (fTr (f1 (hIs .int) (fName 1))) (fRet (fAndV (f1 (hIs .int) (fName 0)) (fAndV (fNotV (f1 (hIs .bool) (fName 0))) (f2 hEq (fName 0) (fName 1))))) fNx) (fRet (fAndV (f1 (hIs .str) (fName 0)) (f2 hEq (fName 0) (fName 1))))))))
def F__law_kept : Nat → List AV → RF
  | 0 => fun _ => .no
  | n + 1 => mkF 2 3 (B__law_kept (F__law_kept n))
theorem ok__law_kept (g : G K mg) : ∀ n, FnOk P w K mg base (L2.CX P w) (1 + n) g.a__law_kept g.d__law_kept ["told", "due"] (spD K (Cn g) fld (F__law_kept n))
  | 0 => fn_noD (k := 0) g.F__law_kept sc__law_kept
  | n + 1 => by
    have ih := ok__law_kept g n
    exact fn_okD (k := 1 + n) g.F__law_kept sc__law_kept fun cdv A outer s H E Z B0 L hr => (dss_cons (ds_if (PW.pt (dw_or (dt_val (de_isi .tuple rfl rfl g.z_isinstance rfl g.z_tuple PyProof.Rows.boot_tuple (de_name 1))) (dw_or1 (dt_val (de_isi .list rfl rfl g.z_isinstance rfl g.z_list PyProof.Rows.boot_list (de_name 1)))))) (dss_cons (ds_if (PW.pt (dw_or (dt_cmp (op_neD hr.units) pr_ne (de_isi .tuple rfl rfl g.z_isinstance rfl g.z_tuple PyProof.Rows.boot_tuple (de_name 0)) (de_isi .tuple rfl rfl g.z_isinstance rfl g.z_tuple PyProof.Rows.boot_tuple (de_name 1)) (nomark _)) (dw_or1 (dt_cmp (op_neD hr.units) pr_ne (de_isi .list rfl rfl g.z_isinstance rfl g.z_list PyProof.Rows.boot_list (de_name 0)) (de_isi .list rfl rfl g.z_isinstance rfl g.z_list PyProof.Rows.boot_list (de_name 1)) (nomark _))))) (dss_one (ds_ret de_bl)) dss_nil) (dss_one (ds_ret (de_and (de_cmp (op_eqD hr.units) pr_eq (de_callB call_len_seq pr_len rfl g.z_len PySem.boot_len (da_cons (de_name 0) da_nil)) (de_callB call_len_seq pr_len rfl g.z_len PySem.boot_len (da_cons (de_name 1) da_nil)) (nomark _)) (de_one (de_callB (cr_all rfl) pr_all rfl g.z_all PyProof.Rows.boot_all (da_cons (de_lc (own := [("at", 2)]) rfl sc__law_kept.nd (di_rng1 rfl g.z_range (da_cons (de_callB call_len_seq pr_len rfl g.z_len PySem.boot_len (da_cons (de_name 1) da_nil)) da_nil)) (blkOk_by (by kernel_rfl)) (fun _ _ _ _ _ => (pg_name (i := 2) sc__law_kept.nd rfl (by first | exact .inl rfl | exact .inr rfl))) (tq_one 2) (fun _ _ _ _ _ => dts_nil) (fun _ _ _ _ _ => (de_imm (de_call (ih) (hr.mono (by omega)) g.g__law_kept g.F__law_kept.kp g.b__law_kept takes0 (da_cons (de_ix ix_seq pr_ix (de_name 0) (de_name 2) (fun _ _ => rfl)) (da_cons (de_ix ix_seq pr_ix (de_name 1) (de_name 2) (fun _ _ => rfl)) da_nil))))) (by decide)) da_nil))))))) dss_nil) (dss_cons (ds_if (dt_cmp op_isN pr_isN (de_name 1) de_non (nomark _)) (dss_one (ds_ret (de_cmp op_isN pr_isN (de_name 0) de_non (nomark _)))) dss_nil) (dss_cons (ds_if (dt_val (de_isi .bool rfl rfl g.z_isinstance rfl g.z_bool PyProof.Rows.boot_bool (de_name 1))) (dss_one (ds_ret (de_if (dt_val (de_name 1)) (de_cmp op_isBl pr_isB (de_name 0) de_bl (nomark _)) (de_cmp op_isBl pr_isB (de_name 0) de_bl (nomark _))))) dss_nil) (dss_cons (ds_if (dt_val (de_isi .int rfl rfl g.z_isinstance rfl g.z_int PyProof.Rows.boot_int (de_name 1))) (dss_one (ds_ret (de_and (de_isi .int rfl rfl g.z_isinstance rfl g.z_int PyProof.Rows.boot_int (de_name 0)) (de_and (de_not (de_isi .bool rfl rfl g.z_isinstance rfl g.z_bool PyProof.Rows.boot_bool (de_name 0))) (de_one (de_cmp (op_eqD hr.units) pr_eq (de_name 0) (de_name 1) (nomark _))))))) dss_nil) (dss_one (ds_ret (de_and (de_isi .str rfl rfl g.z_isinstance rfl g.z_str PyProof.Rows.boot_str (de_name 0)) (de_one (de_cmp (op_eqD hr.units) pr_eq (de_name 0) (de_name 1) (nomark _))))))))))
/-! ### _law_whole -/
abbrev s__law_whole : Stmt := topS 27
theorem sc__law_whole : FnScope ["number"] ["number"] (defScope s__law_whole) := ⟨rfl, rfl, rfl, by decide +kernel, rfl, by decide +kernel, by decide +kernel⟩
def B__law_whole : FS := (fRet (fAndV (f1 (hIs .int) (fName 0)) (fNotV (f1 (hIs .bool) (fName 0)))))
def F__law_whole : List AV → RF := mkF 1 1 B__law_whole
theorem ok__law_whole (g : G K mg) : FnOk P w K mg base (L2.CX P w) 1 g.a__law_whole g.d__law_whole ["number"] (spD K (Cn g) fld F__law_whole) :=
  fn_okD (k := 0) g.F__law_whole sc__law_whole fun cdv A outer s H E Z B0 L hr => (dss_one (ds_ret (de_and (de_isi .int rfl rfl g.z_isinstance rfl g.z_int PyProof.Rows.boot_int (de_name 0)) (de_one (de_not (de_isi .bool rfl rfl g.z_isinstance rfl g.z_bool PyProof.Rows.boot_bool (de_name 0)))))))
/-! ### _law_rightened -/
abbrev s__law_rightened : Stmt := topS 29
theorem sc__law_rightened : FnScope ["tree", "here", "waiting", "parts", "found", "kind", "at"] ["tree"] (defScope s__law_rightened) := ⟨rfl, rfl, rfl, by decide +kernel, rfl, by decide +kernel, by decide +kernel⟩
def B__law_rightened (F : List AV → RF) : FS := (fSeq (fIfS (fTr (f2 hEq (f2 hIx (fName 0) (fImm (.int 0))) (fImm (.str "room")))) (fRet (f2 hIx (fName 0) (fImm (.int 1)))) fNx) (fSeq (fPar3 5 3 2 false true true (f2 hIx (fName 0) (fImm (.int 0))) (fLst faNil) (fLst (faCons (fName 0) faNil))) (fSeq (loopW (fTr (f2 hGt (fCall hLen (faCons (fName 2) faNil)) (fImm (.int 0)))) (fSeq (fSetI 1 (fPop 2)) (fIfS (fTr (f2 hEq (f2 hIx (fName 1) (fImm (.int 0))) (fName 5))) (fSeq (fApp 2 (f2 hIx (fName 1) (fImm (.int 2)))) (fApp 2 (f2 hIx (fName 1) (fImm (.int 1))))) (fApp 3 (fCallF F (faCons (fName 1) faNil))))) 64) (fSeq (fSetI 4 (f2 hIx (fName 3) (f2 hSub (fCall hLen (faCons (fName 3) faNil)) (fImm (.int 1))))) (fSeq (fFor (fRngD (faCons (f2 hSub (fCall hLen (faCons (fName 3) faNil)) (fImm (.int 2))) (faCons (f1 hNeg (fImm (.int 1))) (faCons (f1 hNeg (fImm (.int 1))) faNil)))) (gOne 6) (fSetI 4 (fTup (faCons (fName 5) (faCons (f2 hIx (fName 3) (fName 6)) (faCons (fName 4) faNil)))))) (fRet (fName 4)))))))
def F__law_rightened : Nat → List AV → RF
  | 0 => fun _ => .no
  | n + 1 => mkF 1 7 (B__law_rightened (F__law_rightened n))
theorem ok__law_rightened (g : G K mg) : ∀ n, FnOk P w K mg base (L2.CX P w) (1 + n) g.a__law_rightened g.d__law_rightened ["tree"] (spD K (Cn g) fld (F__law_rightened n))
  | 0 => fn_noD (k := 0) g.F__law_rightened sc__law_rightened
  | n + 1 => by
    have ih := ok__law_rightened g n
    exact fn_okD (k := 1 + n) g.F__law_rightened sc__law_rightened fun cdv A outer s H E Z B0 L hr => (dss_cons (ds_if (dt_cmp (op_eqD hr.units) pr_eq (de_ix ix_seq pr_ix (de_name 0) de_int (fun _ _ => rfl)) de_str (nomark _)) (dss_one (ds_ret (de_ix ix_seq pr_ix (de_name 0) de_int (fun _ _ => rfl)))) dss_nil) (dss_cons (ds_par3 5 3 2 false true true rfl sc__law_rightened.nd (de_ix ix_seq pr_ix (de_name 0) de_int (fun _ _ => rfl)) (de_lst da_nil) (de_lst (da_cons (de_name 0) da_nil)) (by decide) (by decide) (by decide)) (dss_cons (ds_while 64 (passes_of rfl) (dt_cmp op_gt pr_cmp (de_callB call_len_seq pr_len rfl g.z_len PySem.boot_len (da_cons (de_name 2) da_nil)) de_int (nomark _)) (dss_cons (ds_setI 1 sc__law_rightened.nd (de_pop 2 (ht := pe_bm0 PySem.F.plainAttrs_list PySem.F.slot_list_pop PySem.F.type_list_pop mt_pop (pv 2)))) (dss_one (ds_if (dt_cmp (op_eqD hr.units) pr_eq (de_ix ix_seq pr_ix (de_name 1) de_int (fun _ _ => rfl)) (de_name 5) (nomark _)) (dss_cons (ds_app 2 (de_ix ix_seq pr_ix (de_name 1) de_int (fun _ _ => rfl)) (ht := pe_bm PySem.F.plainAttrs_list PySem.F.slot_list_append PySem.F.type_list_append mt_append (pv 2) (pa_cons (de_imm (de_ix ix_seq pr_ix (de_name 1) de_int (fun _ _ => rfl))) pa_nil))) (dss_one (ds_app 2 (de_ix ix_seq pr_ix (de_name 1) de_int (fun _ _ => rfl)) (ht := pe_bm PySem.F.plainAttrs_list PySem.F.slot_list_append PySem.F.type_list_append mt_append (pv 2) (pa_cons (de_imm (de_ix ix_seq pr_ix (de_name 1) de_int (fun _ _ => rfl))) pa_nil))))) (dss_one (ds_app 3 (de_call (ih) (hr.mono (by omega)) g.g__law_rightened g.F__law_rightened.kp g.b__law_rightened (takes_of rfl rfl rfl rfl) (da_cons (de_name 1) da_nil)) (ht := pe_bm PySem.F.plainAttrs_list PySem.F.slot_list_append PySem.F.type_list_append mt_append (pv 3) (pa_cons (de_imm (de_call (ih) (hr.mono (by omega)) g.g__law_rightened g.F__law_rightened.kp g.b__law_rightened (takes_of rfl rfl rfl rfl) (da_cons (de_name 1) da_nil))) pa_nil)))))))) (dss_cons (ds_setI 4 sc__law_rightened.nd (de_ix ix_seq pr_ix (de_name 3) (de_bin op_sub pr_sub (de_callB call_len_seq pr_len rfl g.z_len PySem.boot_len (da_cons (de_name 3) da_nil)) de_int) (fun _ _ => rfl))) (dss_cons (ds_for (passes_of rfl) rfl (di_rngD rfl g.z_range (da_cons (de_bin op_sub pr_sub (de_callB call_len_seq pr_len rfl g.z_len PySem.boot_len (da_cons (de_name 3) da_nil)) de_int) (da_cons (de_un un_neg pr_neg de_int) (da_cons (de_un un_neg pr_neg de_int) da_nil)))) (pg_name (i := 6) sc__law_rightened.nd rfl (by first | exact .inl rfl | exact .inr rfl)) (tq_one 6) (dss_one (ds_setI 4 sc__law_rightened.nd (de_tup (da_cons (de_name 5) (da_cons (de_ix ix_seq pr_ix (de_name 3) (de_name 6) (fun _ _ => rfl)) (da_cons (de_name 4) da_nil))))))) (dss_one (ds_ret (de_name 4))))))))
/-! ### _law_draw_tree -/
abbrev s__law_draw_tree : Stmt := topS 28
theorem sc__law_draw_tree : FnScope ["hand", "many", "trees", "at", "kind"] ["hand", "many"] (defScope s__law_draw_tree) := ⟨rfl, rfl, rfl, by decide +kernel, rfl, by decide +kernel, by decide +kernel⟩
def B__law_draw_tree : FS := (fSeq (fSetI 2 (fLc (fRng1 (faCons (fName 1) faNil)) [3] (gOne 3) fYes (fTup (faCons (fImm (.str "room")) (faCons (fName 3) faNil))))) (fSeq (loopW (fTr (f2 hGt (fCall hLen (faCons (fName 2) faNil)) (fImm (.int 1)))) (fSeq (fPar2 3 4 false false (fI (fCallF F__law_draw (faCons (fName 0) (faCons (f2 hSub (fCall hLen (faCons (fName 2) faNil)) (fImm (.int 1))) faNil)))) (fI (fCallF F__law_some (faCons (fName 0) (faCons (fI (fLst (faCons (fImm (.str "up")) (faCons (fImm (.str "level")) faNil)))) faNil))))) (fSetI 2 (f2 hAdd (f2 hAdd (fSl (fName 2) foNone (foSome (fName 3))) (fLst (faCons (fTup (faCons (fName 4) (faCons (f2 hIx (fName 2) (fName 3)) (faCons (f2 hIx (fName 2) (f2 hAdd (fName 3) (fImm (.int 1)))) faNil)))) faNil))) (fSl (fName 2) (foSome (f2 hAdd (fName 3) (fImm (.int 2)))) foNone)))) 64) (fRet (fCallF (F__law_rightened 12) (faCons (f2 hIx (fName 2) (fImm (.int 0))) faNil)))))
def F__law_draw_tree : List AV → RF := mkF 2 5 B__law_draw_tree
theorem ok__law_draw_tree (g : G K mg) : FnOk P w K mg base (L2.CX P w) 14 g.a__law_draw_tree g.d__law_draw_tree ["hand", "many"] (spD K (Cn g) fld F__law_draw_tree) :=
  fn_okD (k := 13) g.F__law_draw_tree sc__law_draw_tree fun cdv A outer s H E Z B0 L hr => (dss_cons (ds_lcI 2 (own := [("at", 3)]) rfl sc__law_draw_tree.nd (di_rng1 rfl g.z_range (da_cons (de_name 1) da_nil)) (blkOk_by (by kernel_rfl)) (fun _ _ _ _ _ => (pg_name (i := 3) sc__law_draw_tree.nd rfl (by first | exact .inl rfl | exact .inr rfl))) (tq_one 3) (fun _ _ _ _ _ => dts_nil) (fun _ _ _ _ _ => (de_tup (da_cons de_str (da_cons (de_name 3) da_nil)))) (by decide)) (dss_cons (ds_while 64 (passes_of rfl) (dt_cmp op_gt pr_cmp (de_callB call_len_seq pr_len rfl g.z_len PySem.boot_len (da_cons (de_name 2) da_nil)) de_int (nomark _)) (dss_cons (ds_par2 3 4 false false rfl sc__law_draw_tree.nd (de_imm (de_call (ok__law_draw g) (hr.mono (by omega)) g.g__law_draw g.F__law_draw.kp g.b__law_draw (takes_of rfl rfl rfl rfl) (da_cons (de_name 0) (da_cons (de_bin op_sub pr_sub (de_callB call_len_seq pr_len rfl g.z_len PySem.boot_len (da_cons (de_name 2) da_nil)) de_int) da_nil)))) (de_imm (de_call (ok__law_some g) (hr.mono (by omega)) g.g__law_some g.F__law_some.kp g.b__law_some (takes_of rfl rfl rfl rfl) (da_cons (de_name 0) (da_cons (de_imm (de_lst (da_cons de_str (da_cons de_str da_nil)))) da_nil)))) (by decide)) (dss_one (ds_setI 2 sc__law_draw_tree.nd (de_bin op_addD pr_add (de_bin op_addD pr_add (de_slice (de_name 2) do_none (do_some (de_name 3))) (de_lst (da_cons (de_tup (da_cons (de_name 4) (da_cons (de_ix ix_seq pr_ix (de_name 2) (de_name 3) (fun _ _ => rfl)) (da_cons (de_ix ix_seq pr_ix (de_name 2) (de_bin op_addD pr_add (de_name 3) de_int) (fun _ _ => rfl)) da_nil)))) da_nil))) (de_slice (de_name 2) (do_some (de_bin op_addD pr_add (de_name 3) de_int)) do_none)))))) (dss_one (ds_ret (de_call (ok__law_rightened g 12) (hr.mono (by omega)) g.g__law_rightened g.F__law_rightened.kp g.b__law_rightened (takes_of rfl rfl rfl rfl) (da_cons (de_ix ix_seq pr_ix (de_name 2) de_int (fun _ _ => rfl)) da_nil))))))
/-! ### _law_box -/
abbrev s__law_box : Stmt := topS 30
theorem sc__law_box : FnScope ["tree", "sizes", "turned", "one", "other", "wide", "high"] ["tree", "sizes", "turned"] (defScope s__law_box) := ⟨rfl, rfl, rfl, by decide +kernel, rfl, by decide +kernel, by decide +kernel⟩
def B__law_box (F : List AV → RF) : FS := (fSeq (fIfS (fTr (fCallF F__law_whole (faCons (fName 0) faNil))) (fSeq (fTgt (gMany [5, 6]) (f2 hIx (fName 1) (fName 0))) (fRet (fIf (fTr (f2 (hIn false) (fName 0) (fName 2))) (fTup (faCons (fName 6) (faCons (fName 5) faNil))) (fTup (faCons (fName 5) (faCons (fName 6) faNil)))))) fNx) (fSeq (fPar2 3 4 false false (fI (fCallF F (faCons (f2 hIx (fName 0) (fImm (.int 1))) (faCons (fName 1) (faCons (fName 2) faNil))))) (fI (fCallF F (faCons (f2 hIx (fName 0) (fImm (.int 2))) (faCons (fName 1) (faCons (fName 2) faNil)))))) (fRet (fIf (fTr (f2 hEq (f2 hIx (fName 0) (fImm (.int 0))) (fImm (.str "up")))) (fTup (faCons (fI (f2 hAdd (f2 hIx (fName 3) (fImm (.int 0))) (f2 hIx (fName 4) (fImm (.int 0))))) (faCons (fCall hMax (faCons (f2 hIx (fName 3) (fImm (.int 1))) (faCons (f2 hIx (fName 4) (fImm (.int 1))) faNil))) faNil))) (fTup (faCons (fCall hMax (faCons (f2 hIx (fName 3) (fImm (.int 0))) (faCons (f2 hIx (fName 4) (fImm (.int 0))) faNil))) (faCons (fI (f2 hAdd (f2 hIx (fName 3) (fImm (.int 1))) (f2 hIx (fName 4) (fImm (.int 1))))) faNil)))))))
def F__law_box : Nat → List AV → RF
  | 0 => fun _ => .no
  | n + 1 => mkF 3 7 (B__law_box (F__law_box n))
theorem ok__law_box (g : G K mg) : ∀ n, FnOk P w K mg base (L2.CX P w) (1 + n) g.a__law_box g.d__law_box ["tree", "sizes", "turned"] (spD K (Cn g) fld (F__law_box n))
  | 0 => fn_noD (k := 0) g.F__law_box sc__law_box
  | n + 1 => by
    have ih := ok__law_box g n
    exact fn_okD (k := 1 + n) g.F__law_box sc__law_box fun cdv A outer s H E Z B0 L hr => (dss_cons (ds_if (dt_val (de_call (ok__law_whole g) (hr.mono (by omega)) g.g__law_whole g.F__law_whole.kp g.b__law_whole (takes_of rfl rfl rfl rfl) (da_cons (de_name 0) da_nil))) (dss_cons (ds_tgt (de_ix ix_seq pr_ix (de_name 1) (de_name 0) (fun _ _ => rfl)) (pg_tup rfl (pgs_cons (pg_name (i := 5) sc__law_box.nd rfl (by first | exact .inl rfl | exact .inr rfl)) (pgs_cons (pg_name (i := 6) sc__law_box.nd rfl (by first | exact .inl rfl | exact .inr rfl)) pgs_nil))) (tq_many (tqs_cons 5 (tqs_cons 6 tqs_nil)))) (dss_one (ds_ret (de_if (dt_cmp (op_mem (hu65 hr)) pr_in (de_name 0) (de_name 2) (by rfl)) (de_tup (da_cons (de_name 6) (da_cons (de_name 5) da_nil))) (de_tup (da_cons (de_name 5) (da_cons (de_name 6) da_nil))))))) dss_nil) (dss_cons (ds_par2 3 4 false false rfl sc__law_box.nd (de_imm (de_call (ih) (hr.mono (by omega)) g.g__law_box g.F__law_box.kp g.b__law_box (takes_of rfl rfl rfl rfl) (da_cons (de_ix ix_seq pr_ix (de_name 0) de_int (fun _ _ => rfl)) (da_cons (de_name 1) (da_cons (de_name 2) da_nil))))) (de_imm (de_call (ih) (hr.mono (by omega)) g.g__law_box g.F__law_box.kp g.b__law_box (takes_of rfl rfl rfl rfl) (da_cons (de_ix ix_seq pr_ix (de_name 0) de_int (fun _ _ => rfl)) (da_cons (de_name 1) (da_cons (de_name 2) da_nil))))) (by decide)) (dss_one (ds_ret (de_if (dt_cmp (op_eqD hr.units) pr_eq (de_ix ix_seq pr_ix (de_name 0) de_int (fun _ _ => rfl)) de_str (nomark _)) (de_tup (da_cons (de_imm (de_bin op_addD pr_add (de_ix ix_seq pr_ix (de_name 3) de_int (fun _ _ => rfl)) (de_ix ix_seq pr_ix (de_name 4) de_int (fun _ _ => rfl)))) (da_cons (de_callB (callR_or (cr_max rfl) (call_max2 rfl)) pr_max rfl g.z_max PyProof.Rows.boot_max (da_cons (de_ix ix_seq pr_ix (de_name 3) de_int (fun _ _ => rfl)) (da_cons (de_ix ix_seq pr_ix (de_name 4) de_int (fun _ _ => rfl)) da_nil))) da_nil))) (de_tup (da_cons (de_callB (callR_or (cr_max rfl) (call_max2 rfl)) pr_max rfl g.z_max PyProof.Rows.boot_max (da_cons (de_ix ix_seq pr_ix (de_name 3) de_int (fun _ _ => rfl)) (da_cons (de_ix ix_seq pr_ix (de_name 4) de_int (fun _ _ => rfl)) da_nil))) (da_cons (de_imm (de_bin op_addD pr_add (de_ix ix_seq pr_ix (de_name 3) de_int (fun _ _ => rfl)) (de_ix ix_seq pr_ix (de_name 4) de_int (fun _ _ => rfl)))) da_nil))))))))
/-! ### _law_all_boxes -/
abbrev s__law_all_boxes : Stmt := topS 31
theorem sc__law_all_boxes : FnScope ["tree", "sizes", "lot", "lots", "room", "box", "found"] ["tree", "sizes"] (defScope s__law_all_boxes) := ⟨rfl, rfl, rfl, by decide +kernel, rfl, by decide +kernel, by decide +kernel⟩
def B__law_all_boxes : FS := (fSeq (fPar2 3 6 false true (fI (fLst (faCons (fTup faNil) faNil))) fDct) (fSeq (fFor (fRng1 (faCons (fCall hLen (faCons (fName 1) faNil)) faNil)) (gOne 4) (fSetI 3 (f2 hAdd (fName 3) (fLc (fIt (fName 3)) [2] (gOne 2) fYes (fI (f2 hAdd (fName 2) (fTup (faCons (fName 4) faNil)))))))) (fSeq (fFor (fIt (fName 3)) (gOne 2) (fSeq (fSetI 5 (fCallF (F__law_box 12) (faCons (fName 0) (faCons (fName 1) (faCons (fName 2) faNil))))) (fSubD 6 (fName 5) (f2 hAdd (fIf (fTr (f2 (hDIn false) (fName 5) (fName 6))) (f2 hDIx (fName 6) (fName 5)) (fLst faNil)) (fLst (faCons (fName 2) faNil)))))) (fRet (fName 6)))))
def F__law_all_boxes : List AV → RF := mkF 2 7 B__law_all_boxes
theorem ok__law_all_boxes (g : G K mg) : FnOk P w K mg base (L2.CX P w) 14 g.a__law_all_boxes g.d__law_all_boxes ["tree", "sizes"] (spD K (Cn g) fld F__law_all_boxes) :=
  fn_okD (k := 13) g.F__law_all_boxes sc__law_all_boxes fun cdv A outer s H E Z B0 L hr => (dss_cons (ds_par2 3 6 false true rfl sc__law_all_boxes.nd (de_imm (de_lst (da_cons (de_tup da_nil) da_nil))) de_dctT (by decide)) (dss_cons (ds_for (passes_of rfl) rfl (di_rng1 rfl g.z_range (da_cons (de_callB call_len_seq pr_len rfl g.z_len PySem.boot_len (da_cons (de_name 1) da_nil)) da_nil)) (pg_name (i := 4) sc__law_all_boxes.nd rfl (by first | exact .inl rfl | exact .inr rfl)) (tq_one 4) (dss_one (ds_setI 3 sc__law_all_boxes.nd (de_bin op_addD pr_add (de_name 3) (de_lc (own := [("lot", 2)]) rfl sc__law_all_boxes.nd (di_it (de_name 3)) (blkOk_by (by kernel_rfl)) (fun _ _ _ _ _ => (pg_name (i := 2) sc__law_all_boxes.nd rfl (by first | exact .inl rfl | exact .inr rfl))) (tq_one 2) (fun _ _ _ _ _ => dts_nil) (fun _ _ _ _ _ => (de_imm (de_bin op_addD pr_add (de_name 2) (de_tup (da_cons (de_name 4) da_nil))))) (by decide)))))) (dss_cons (ds_for (passes_of rfl) rfl (di_it (de_name 3)) (pg_name (i := 2) sc__law_all_boxes.nd rfl (by first | exact .inl rfl | exact .inr rfl)) (tq_one 2) (dss_cons (ds_setI 5 sc__law_all_boxes.nd (de_call (ok__law_box g 12) (hr.mono (by omega)) g.g__law_box g.F__law_box.kp g.b__law_box (takes_of rfl rfl rfl rfl) (da_cons (de_name 0) (da_cons (de_name 1) (da_cons (de_name 2) da_nil))))) (dss_one (ds_subD 6 (hu1 hr) (de_bin op_addD pr_add (de_if (dt_din (hu1 hr) (de_name 5) (de_name 6) (by rfl)) (de_dix (hu1 hr) (de_name 6) (de_name 5) (fun _ _ => rfl)) (de_lst da_nil)) (de_lst (da_cons (de_name 2) da_nil))) (de_name 5))))) (dss_one (ds_ret (de_name 6))))))
/-! ### _law_least -/
abbrev s__law_least : Stmt := topS 32
theorem sc__law_least : FnScope ["boxes", "other", "box", "found"] ["boxes"] (defScope s__law_least) := ⟨rfl, rfl, rfl, by decide +kernel, rfl, by decide +kernel, by decide +kernel⟩
def B__law_least : FS := (fSeq (fSetO 3 (fLst faNil)) (fSeq (fFor (fIt (fI (fSortD (fName 0)))) (gOne 2) (fIfS (fNot (fTr (fCall hAny (faCons (fLc (fItD (fName 0)) [1] (gOne 1) fYes (fAndV (f2 hNe (fName 1) (fName 2)) (fAndV (f2 hLe (f2 hIx (fName 1) (fImm (.int 0))) (f2 hIx (fName 2) (fImm (.int 0)))) (f2 hLe (f2 hIx (fName 1) (fImm (.int 1))) (f2 hIx (fName 2) (fImm (.int 1))))))) faNil)))) (fApp 3 (fName 2)) fNx)) (fRet (fName 3))))
def F__law_least : List AV → RF := mkF 1 4 B__law_least
theorem ok__law_least (g : G K mg) : FnOk P w K mg base (L2.CX P w) 1 g.a__law_least g.d__law_least ["boxes"] (spD K (Cn g) fld F__law_least) :=
  fn_okD (k := 0) g.F__law_least sc__law_least fun cdv A outer s H E Z B0 L hr => (dss_cons (ds_setO 3 sc__law_least.nd (de_lst da_nil)) (dss_cons (ds_for (passes_of rfl) rfl (di_it (de_imm (de_sortD rfl hr.units rfl g.z_sorted (de_name 0)))) (pg_name (i := 2) sc__law_least.nd rfl (by first | exact .inl rfl | exact .inr rfl)) (tq_one 2) (dss_one (ds_if (dt_not (dt_val (de_callB (cr_any rfl) pr_any rfl g.z_any PyProof.Rows.boot_any (da_cons (de_lc (own := [("other", 1)]) rfl sc__law_least.nd (di_dict (de_name 0)) (blkOk_by (by kernel_rfl)) (fun _ _ _ _ _ => (pg_name (i := 1) sc__law_least.nd rfl (by first | exact .inl rfl | exact .inr rfl))) (tq_one 1) (fun _ _ _ _ _ => dts_nil) (fun _ _ _ _ _ => (de_and (de_cmp (op_neD hr.units) pr_ne (de_name 1) (de_name 2) (nomark _)) (de_and (de_cmp op_le pr_cmp (de_ix ix_seq pr_ix (de_name 1) de_int (fun _ _ => rfl)) (de_ix ix_seq pr_ix (de_name 2) de_int (fun _ _ => rfl)) (nomark _)) (de_one (de_cmp op_le pr_cmp (de_ix ix_seq pr_ix (de_name 1) de_int (fun _ _ => rfl)) (de_ix ix_seq pr_ix (de_name 2) de_int (fun _ _ => rfl)) (nomark _)))))) (by decide)) da_nil)))) (dss_one (ds_app 3 (de_name 2) (ht := pe_bm PySem.F.plainAttrs_list PySem.F.slot_list_append PySem.F.type_list_append mt_append (pv 3) (pa_cons (de_imm (de_name 2)) pa_nil)))) dss_nil))) (dss_one (ds_ret (de_name 3)))))
/-! ### _law_refusal -/
abbrev s__law_refusal : Stmt := topS 33
theorem sc__law_refusal : FnScope ["tree", "sizes", "e"] ["tree", "sizes"] (defScope s__law_refusal) := ⟨rfl, rfl, rfl, by decide +kernel, rfl, by decide +kernel, by decide +kernel⟩
def B__law_refusal : FS := (fSeq (fTry (fDrop (fCallF F_shapes (faCons (fName 0) (faCons (fName 1) faNil)))) ((mt_NoTree, (some 2), (fun _ => (fRet (fImm (.str "tree"))))) :: ((mt_NoSizes, (some 2), (fun _ => (fRet (fImm (.str "sizes"))))) :: ((mt_FloorError, none, (fun _ => (fRet (fImm (.str "other"))))) :: [])))) (fRet (fImm (.str "none"))))
def F__law_refusal : List AV → RF := mkF 2 3 B__law_refusal
theorem ok__law_refusal (g : G K mg) : FnOk P w K mg base (L2.CX P w) 16 g.a__law_refusal g.d__law_refusal ["tree", "sizes"] (spD K (Cn g) fld F__law_refusal) :=
  fn_okD (k := 15) g.F__law_refusal sc__law_refusal fun cdv A outer s H E Z B0 L hr => (dss_cons (ds_try rfl rfl sc__law_refusal.nd (takes_of rfl rfl rfl rfl) (fun W' pn xe tk po => (dss_one (ds_expr (de_call (ok_shapes g) (hr.mono (by omega)) g.g_shapes g.F_shapes.kp g.b_shapes tk (da_cons (de_name 0) (da_cons (de_name 1) da_nil)))))) (.cons (m_NoTree g) (.cons (m_NoSizes g) (.cons (m_FloorError g) .nil))) (.consAs (i := 2) ⟨rfl, by decide, .inl g.g_NoTree⟩ rfl rfl (fun a oe cls d pn hz hf => suite_of fun e B hx => (dss_one (ds_ret de_str))) (.consAs (i := 2) ⟨rfl, by decide, .inl g.g_NoSizes⟩ rfl rfl (fun a oe cls d pn hz hf => suite_of fun e B hx => (dss_one (ds_ret de_str))) (.cons ⟨rfl, by decide, .inl g.g_FloorError⟩ (fun a oe cls d pn hz hf => suite_of fun e B hx => (dss_one (ds_ret de_str))) .nil)))) (dss_one (ds_ret de_str)))
/-! ### law -/
abbrev s_law : Stmt := topS 34
theorem sc_law : FnScope ["script", "at", "told", "hand", "due", "own", "box", "sizes", "boxes", "great", "many", "high", "tree", "wide", "bad", "room", "lot", "wrong", "other", "turn"] ["script"] (defScope s_law) := ⟨rfl, rfl, rfl, by decide +kernel, rfl, by decide +kernel, by decide +kernel⟩
def B_law : FS := (fSeq (fSetO 3 (fCallF F__law_hand (faCons (fName 0) faNil))) (fSeq (fFor (fRng1 (faCons (fImm (.int 5)) faNil)) (gOne 19) (fSeq (fSetI 10 (f2 hAdd (fImm (.int 1)) (fCallF F__law_draw (faCons (fName 3) (faCons (fImm (.int 7)) faNil))))) (fSeq (fTgt (gMany [12, 9]) (fTup (faCons (fI (fCallF F__law_draw_tree (faCons (fName 3) (faCons (fName 10) faNil)))) (faCons (f2 hIx (fLst (faCons (fImm (.int 3)) (faCons (fImm (.int 9)) (faCons (f2 hPow (fImm (.int 10)) (fImm (.int 9))) faNil)))) (fCallF F__law_draw (faCons (fName 3) (faCons (fImm (.int 3)) faNil)))) faNil)))) (fSeq (fSetI 7 (fCall hTuple (faCons (fLc (fRng1 (faCons (fName 10) faNil)) [15] (gOne 15) fYes (fTup (faCons (fI (f2 hAdd (fImm (.int 1)) (fCallF F__law_big (faCons (fName 3) (faCons (fName 9) faNil))))) (faCons (fI (f2 hAdd (fImm (.int 1)) (fCallF F__law_big (faCons (fName 3) (faCons (fName 9) faNil))))) faNil)))) faNil))) (fSeq (fSetI 8 (fCallF F__law_all_boxes (faCons (fName 12) (faCons (fName 7) faNil)))) (fSeq (fPar2 4 2 false false (fI (fCallF F__law_least (faCons (fName 8) faNil))) (fI (fCallF F_shapes (faCons (fName 12) (faCons (fName 7) faNil))))) (fSeq (fIfS (fOr (fNot (fTr (f1 (hIs .list) (fName 2)))) (fOr (fTr (f2 hNe (fCall hLen (faCons (fName 2) faNil)) (fCall hLen (faCons (fName 4) faNil)))) (fTr (f2 hNotB (fCallF F_are_shapes (faCons (fName 12) (faCons (fName 7) (faCons (fName 2) faNil)))) (fImm (.bool true)))))) (fRet (fImm (.bool false))) fNx) (fSeq (fFor (fRng1 (faCons (fCall hLen (faCons (fName 4) faNil)) faNil)) (gOne 1) (fSeq (fIfS (fOr (fNot (fTr (f1 (hIs .tuple) (f2 hIx (fName 2) (fName 1))))) (fOr (fTr (f2 hNe (fCall hLen (faCons (f2 hIx (fName 2) (fName 1)) faNil)) (fImm (.int 3)))) (fNot (fTr (fCallF (F__law_kept 12) (faCons (fI (fSl (f2 hIx (fName 2) (fName 1)) foNone (foSome (fImm (.int 2))))) (faCons (f2 hIx (fName 4) (fName 1)) faNil))))))) (fRet (fImm (.bool false))) fNx) (fIfS (fOr (fNot (fTr (f1 (hIs .tuple) (f2 hIx (f2 hIx (fName 2) (fName 1)) (fImm (.int 2)))))) (fTr (f2 (hIn true) (f2 hIx (f2 hIx (fName 2) (fName 1)) (fImm (.int 2))) (f2 hDIx (fName 8) (f2 hIx (fName 4) (fName 1)))))) (fRet (fImm (.bool false))) fNx))) (fSeq (fSetI 5 (fLc (fIt (fName 4)) [6] (gOne 6) fYes (fTup (faCons (f2 hIx (fName 6) (fImm (.int 0))) (faCons (f2 hIx (fName 6) (fImm (.int 1))) (faCons (fI (fCallF F__law_some (faCons (fName 3) (faCons (f2 hDIx (fName 8) (fName 6)) faNil)))) faNil)))))) (fSeq (fIfS (fTr (f2 hNotB (fCallF F_are_shapes (faCons (fName 12) (faCons (fName 7) (faCons (fI (fCall hList (faCons (fName 5) faNil))) faNil)))) (fImm (.bool true)))) (fRet (fImm (.bool false))) fNx) (fSeq (fSetI 1 (fCallF F__law_draw (faCons (fName 3) (faCons (fCall hLen (faCons (fName 5) faNil)) faNil)))) (fSeq (fTgt (gMany [13, 11, 16]) (f2 hIx (fName 5) (fName 1))) (fSeq (fSetO 14 (fLst (faCons (fI (f2 hAdd (fSl (fName 5) foNone (foSome (fName 1))) (fSl (fName 5) (foSome (f2 hAdd (fName 1) (fImm (.int 1)))) foNone))) (faCons (fI (f2 hAdd (fName 5) (fSl (fName 5) foNone (foSome (fImm (.int 1)))))) (faCons (fCall hTuple (faCons (fName 5) faNil)) (faCons (fI (f2 hAdd (f2 hAdd (fSl (fName 5) foNone (foSome (fName 1))) (fLst (faCons (fTup (faCons (fName 13) (faCons (fI (f2 hAdd (fName 11) (fImm (.int 1)))) (faCons (fName 16) faNil)))) faNil))) (fSl (fName 5) (foSome (f2 hAdd (fName 1) (fImm (.int 1)))) foNone))) (faCons (fImm .none) (faCons (fImm (.str "")) (faCons (fI (f2 hAdd (fName 5) (fLst (faCons (fImm .none) faNil)))) faNil))))))))) (fSeq (fSetO 14 (f2 hAdd (fName 14) (fLst (faCons (fI (f2 hAdd (f2 hAdd (fSl (fName 5) foNone (foSome (fName 1))) (fLst (faCons (fTup (faCons (fName 13) (faCons (fName 11) (faCons (fI (fCall hList (faCons (fName 16) faNil))) faNil)))) faNil))) (fSl (fName 5) (foSome (f2 hAdd (fName 1) (fImm (.int 1)))) foNone))) (faCons (fI (f2 hAdd (f2 hAdd (fSl (fName 5) foNone (foSome (fName 1))) (fLst (faCons (fTup (faCons (fName 13) (faCons (fName 11) faNil))) faNil))) (fSl (fName 5) (foSome (f2 hAdd (fName 1) (fImm (.int 1)))) foNone))) faNil))))) (fSeq (fSetO 14 (f2 hAdd (fName 14) (fLst (faCons (fI (f2 hAdd (f2 hAdd (fSl (fName 5) foNone (foSome (fName 1))) (fLst (faCons (fTup (faCons (fName 13) (faCons (fName 11) (faCons (fI (f2 hAdd (fName 16) (fTup (faCons (fName 10) faNil)))) faNil)))) faNil))) (fSl (fName 5) (foSome (f2 hAdd (fName 1) (fImm (.int 1)))) foNone))) (faCons (fI (f2 hAdd (f2 hAdd (fSl (fName 5) foNone (foSome (fName 1))) (fLst (faCons (fTup (faCons (fI (f2 hAdd (fName 11) (fName 13))) (faCons (fName 11) (faCons (fName 16) faNil)))) faNil))) (fSl (fName 5) (foSome (f2 hAdd (fName 1) (fImm (.int 1)))) foNone))) faNil))))) (fSeq (fIfS (fTr (f2 hGt (fCall hLen (faCons (fName 5) faNil)) (fImm (.int 1)))) (fApp 14 (fRevL (fName 5))) fNx) (fFrz 14 (fSeq (fIfS (fTr (f2 hNotB (fCallF F_are_shapes (faCons (fName 12) (faCons (fName 7) (faCons (fI (fCallF F__law_some (faCons (fName 3) (faCons (fName 14) faNil)))) faNil)))) (fImm (.bool false)))) (fRet (fImm (.bool false))) fNx) (fSeq (fSetI 18 (fCallF F__law_some (faCons (fName 3) (faCons (f2 hDIx (fName 8) (fCallF F__law_some (faCons (fName 3) (faCons (fI (fSortD (fName 8))) faNil)))) faNil)))) (fSeq (fIfS (fNot (fTr (fCallF (F__law_kept 12) (faCons (fI (fCallF F_are_shapes (faCons (fName 12) (faCons (fName 7) (faCons (fI (f2 hAdd (f2 hAdd (fSl (fName 5) foNone (foSome (fName 1))) (fLst (faCons (fTup (faCons (fName 13) (faCons (fName 11) (faCons (fName 18) faNil)))) faNil))) (fSl (fName 5) (foSome (f2 hAdd (fName 1) (fImm (.int 1)))) foNone))) faNil))))) (faCons (f2 (hIn false) (fName 18) (f2 hDIx (fName 8) (fTup (faCons (fName 13) (faCons (fName 11) faNil))))) faNil))))) (fRet (fImm (.bool false))) fNx) (fSeq (fSetI 17 (fLst (faCons (fI (fCall hList (faCons (fName 7) faNil))) (faCons (fI (fSl (fName 7) (foSome (fImm (.int 1))) foNone)) (faCons (fI (f2 hAdd (fName 7) (fSl (fName 7) foNone (foSome (fImm (.int 1)))))) (faCons (fImm .none) (faCons (fI (f2 hAdd (fTup (faCons (fTup (faCons (fImm (.int 0)) (faCons (fImm (.int 1)) faNil))) faNil)) (fSl (fName 7) (foSome (fImm (.int 1))) foNone))) (faCons (fI (f2 hAdd (fTup (faCons (fTup (faCons (fImm (.int 1)) (faCons (fImm (.bool true)) faNil))) faNil)) (fSl (fName 7) (foSome (fImm (.int 1))) foNone))) (faCons (fI (f2 hAdd (fTup (faCons (fTup (faCons (fImm (.int 1)) faNil)) faNil)) (fSl (fName 7) (foSome (fImm (.int 1))) foNone))) (faCons (fImm (.int 0)) faNil)))))))))) (fSeq (fSetI 17 (f2 hAdd (fName 17) (fLst (faCons (fI (f2 hAdd (fTup (faCons (fTup (faCons (fI (f2 hAdd (f2 hPow (fImm (.int 10)) (fImm (.int 9))) (fImm (.int 1)))) (faCons (fImm (.int 1)) faNil))) faNil)) (fSl (fName 7) (foSome (fImm (.int 1))) foNone))) (faCons (fI (f2 hAdd (fTup (faCons (fI (fLst (faCons (fImm (.int 1)) (faCons (fImm (.int 1)) faNil)))) faNil)) (fSl (fName 7) (foSome (fImm (.int 1))) foNone))) (faCons (fI (f2 hAdd (fTup (faCons (fImm .none) faNil)) (fSl (fName 7) (foSome (fImm (.int 1))) foNone))) faNil)))))) (fIfS (fOr (fTr (f2 hNe (fCallF F__law_refusal (faCons (fName 12) (faCons (fI (fCallF F__law_some (faCons (fName 3) (faCons (fName 17) faNil)))) faNil))) (fImm (.str "sizes")))) (fTr (f2 hNe (fCallF F__law_refusal (faCons (fI (fCallF F__law_some (faCons (fName 3) (faCons (fI (fLst (faCons (fImm .none) (faCons (fImm (.int 1)) (faCons (fTup faNil) (faCons (fTup (faCons (fImm (.str "up")) (faCons (fImm (.int 0)) (faCons (fImm (.int 0)) faNil)))) faNil)))))) faNil)))) (faCons (fImm .none) faNil))) (fImm (.str "tree"))))) (fRet (fImm (.bool false))) fNx))))))))))))))))))))))) (fRet (fImm (.bool true)))))
def F_law : List AV → RF := mkF 1 20 B_law
theorem ok_law (g : G K mg) : FnOk P w K mg base (L2.CX P w) 17 g.a_law g.d_law ["script"] (spD K (Cn g) fld F_law) :=
  fn_okD (k := 16) g.F_law sc_law fun cdv A outer s H E Z B0 L hr => (dss_cons (ds_setO 3 sc_law.nd (de_call (ok__law_hand g) (hr.mono (by omega)) g.g__law_hand g.F__law_hand.kp g.b__law_hand (takes_of rfl rfl rfl rfl) (da_cons (de_name 0) da_nil))) (dss_cons (ds_for (passes_of rfl) rfl (di_rng1 rfl g.z_range (da_cons de_int da_nil)) (pg_name (i := 19) sc_law.nd rfl (by first | exact .inl rfl | exact .inr rfl)) (tq_one 19) (dss_cons (ds_setI 10 sc_law.nd (de_bin op_addD pr_add de_int (de_call (ok__law_draw g) (hr.mono (by omega)) g.g__law_draw g.F__law_draw.kp g.b__law_draw (takes_of rfl rfl rfl rfl) (da_cons (de_name 3) (da_cons de_int da_nil))))) (dss_cons (ds_tgt (de_tup (da_cons (de_imm (de_call (ok__law_draw_tree g) (hr.mono (by omega)) g.g__law_draw_tree g.F__law_draw_tree.kp g.b__law_draw_tree (takes_of rfl rfl rfl rfl) (da_cons (de_name 3) (da_cons (de_name 10) da_nil)))) (da_cons (de_ix ix_seq pr_ix (de_lst (da_cons de_int (da_cons de_int (da_cons (de_bin op_pow pr_pow de_int de_int) da_nil)))) (de_call (ok__law_draw g) (hr.mono (by omega)) g.g__law_draw g.F__law_draw.kp g.b__law_draw (takes_of rfl rfl rfl rfl) (da_cons (de_name 3) (da_cons de_int da_nil))) (fun _ _ => rfl)) da_nil))) (pg_tup rfl (pgs_cons (pg_name (i := 12) sc_law.nd rfl (by first | exact .inl rfl | exact .inr rfl)) (pgs_cons (pg_name (i := 9) sc_law.nd rfl (by first | exact .inl rfl | exact .inr rfl)) pgs_nil))) (tq_many (tqs_cons 12 (tqs_cons 9 tqs_nil)))) (dss_cons (ds_setI 7 sc_law.nd (de_callTy call_tuple_of pr_tuple rfl g.z_tuple PyProof.Rows.boot_tuple (da_cons (de_lc (own := [("room", 15)]) rfl sc_law.nd (di_rng1 rfl g.z_range (da_cons (de_name 10) da_nil)) (blkOk_by (by kernel_rfl)) (fun _ _ _ _ _ => (pg_name (i := 15) sc_law.nd rfl (by first | exact .inl rfl | exact .inr rfl))) (tq_one 15) (fun _ _ _ _ _ => dts_nil) (fun _ _ _ _ _ => (de_tup (da_cons (de_imm (de_bin op_addD pr_add de_int (de_call (ok__law_big g) (hr.mono (by omega)) g.g__law_big g.F__law_big.kp g.b__law_big takes0 (da_cons (de_name 3) (da_cons (de_name 9) da_nil))))) (da_cons (de_imm (de_bin op_addD pr_add de_int (de_call (ok__law_big g) (hr.mono (by omega)) g.g__law_big g.F__law_big.kp g.b__law_big takes0 (da_cons (de_name 3) (da_cons (de_name 9) da_nil))))) da_nil)))) (by decide)) da_nil))) (dss_cons (ds_setI 8 sc_law.nd (de_call (ok__law_all_boxes g) (hr.mono (by omega)) g.g__law_all_boxes g.F__law_all_boxes.kp g.b__law_all_boxes (takes_of rfl rfl rfl rfl) (da_cons (de_name 12) (da_cons (de_name 7) da_nil)))) (dss_cons (ds_par2 4 2 false false rfl sc_law.nd (de_imm (de_call (ok__law_least g) (hr.mono (by omega)) g.g__law_least g.F__law_least.kp g.b__law_least (takes_of rfl rfl rfl rfl) (da_cons (de_name 8) da_nil))) (de_imm (de_call (ok_shapes g) (hr.mono (by omega)) g.g_shapes g.F_shapes.kp g.b_shapes (takes_of rfl rfl rfl rfl) (da_cons (de_name 12) (da_cons (de_name 7) da_nil)))) (by decide)) (dss_cons (ds_if (PW.pt (dw_or (dt_not (dt_val (de_isi .list rfl rfl g.z_isinstance rfl g.z_list PyProof.Rows.boot_list (de_name 2)))) (dw_or (dt_cmp (op_neD hr.units) pr_ne (de_callB call_len_seq pr_len rfl g.z_len PySem.boot_len (da_cons (de_name 2) da_nil)) (de_callB call_len_seq pr_len rfl g.z_len PySem.boot_len (da_cons (de_name 4) da_nil)) (nomark _)) (dw_or1 (dt_cmp op_notBl pr_notB (de_call (ok_are_shapes g) (hr.mono (by omega)) g.g_are_shapes g.F_are_shapes.kp g.b_are_shapes (takes_of rfl rfl rfl rfl) (da_cons (de_name 12) (da_cons (de_name 7) (da_cons (de_name 2) da_nil)))) de_bl (nomark _)))))) (dss_one (ds_ret de_bl)) dss_nil) (dss_cons (ds_for (passes_of rfl) rfl (di_rng1 rfl g.z_range (da_cons (de_callB call_len_seq pr_len rfl g.z_len PySem.boot_len (da_cons (de_name 4) da_nil)) da_nil)) (pg_name (i := 1) sc_law.nd rfl (by first | exact .inl rfl | exact .inr rfl)) (tq_one 1) (dss_cons (ds_if (PW.pt (dw_or (dt_not (dt_val (de_isi .tuple rfl rfl g.z_isinstance rfl g.z_tuple PyProof.Rows.boot_tuple (de_ix ix_seq pr_ix (de_name 2) (de_name 1) (fun _ _ => rfl))))) (dw_or (dt_cmp (op_neD hr.units) pr_ne (de_callB call_len_seq pr_len rfl g.z_len PySem.boot_len (da_cons (de_ix ix_seq pr_ix (de_name 2) (de_name 1) (fun _ _ => rfl)) da_nil)) de_int (nomark _)) (dw_or1 (dt_not (dt_val (de_call (ok__law_kept g 12) (hr.mono (by omega)) g.g__law_kept g.F__law_kept.kp g.b__law_kept (takes_of rfl rfl rfl rfl) (da_cons (de_imm (de_slice (de_ix ix_seq pr_ix (de_name 2) (de_name 1) (fun _ _ => rfl)) do_none (do_some de_int))) (da_cons (de_ix ix_seq pr_ix (de_name 4) (de_name 1) (fun _ _ => rfl)) da_nil))))))))) (dss_one (ds_ret de_bl)) dss_nil) (dss_one (ds_if (PW.pt (dw_or (dt_not (dt_val (de_isi .tuple rfl rfl g.z_isinstance rfl g.z_tuple PyProof.Rows.boot_tuple (de_ix ix_seq pr_ix (de_ix ix_seq pr_ix (de_name 2) (de_name 1) (fun _ _ => rfl)) de_int (fun _ _ => rfl))))) (dw_or1 (dt_cmp (op_notMem (hu65 hr)) pr_in (de_ix ix_seq pr_ix (de_ix ix_seq pr_ix (de_name 2) (de_name 1) (fun _ _ => rfl)) de_int (fun _ _ => rfl)) (de_dix (hu1 hr) (de_name 8) (de_ix ix_seq pr_ix (de_name 4) (de_name 1) (fun _ _ => rfl)) (fun _ _ => rfl)) (by rfl))))) (dss_one (ds_ret de_bl)) dss_nil)))) (dss_cons (ds_lcI 5 (own := [("box", 6)]) rfl sc_law.nd (di_it (de_name 4)) (blkOk_by (by kernel_rfl)) (fun _ _ _ _ _ => (pg_name (i := 6) sc_law.nd rfl (by first | exact .inl rfl | exact .inr rfl))) (tq_one 6) (fun _ _ _ _ _ => dts_nil) (fun _ _ _ _ _ => (de_tup (da_cons (de_ix ix_seq pr_ix (de_name 6) de_int (fun _ _ => rfl)) (da_cons (de_ix ix_seq pr_ix (de_name 6) de_int (fun _ _ => rfl)) (da_cons (de_imm (de_call (ok__law_some g) (hr.mono (by omega)) g.g__law_some g.F__law_some.kp g.b__law_some takes0 (da_cons (de_name 3) (da_cons (de_dix (hu1 hr) (de_name 8) (de_name 6) (fun _ _ => rfl)) da_nil)))) da_nil))))) (by decide)) (dss_cons (ds_if (dt_cmp op_notBl pr_notB (de_call (ok_are_shapes g) (hr.mono (by omega)) g.g_are_shapes g.F_are_shapes.kp g.b_are_shapes (takes_of rfl rfl rfl rfl) (da_cons (de_name 12) (da_cons (de_name 7) (da_cons (de_imm (de_callTy call_list_of pr_list rfl g.z_list PyProof.Rows.boot_list (da_cons (de_name 5) da_nil))) da_nil)))) de_bl (nomark _)) (dss_one (ds_ret de_bl)) dss_nil) (dss_cons (ds_setI 1 sc_law.nd (de_call (ok__law_draw g) (hr.mono (by omega)) g.g__law_draw g.F__law_draw.kp g.b__law_draw (takes_of rfl rfl rfl rfl) (da_cons (de_name 3) (da_cons (de_callB call_len_seq pr_len rfl g.z_len PySem.boot_len (da_cons (de_name 5) da_nil)) da_nil)))) (dss_cons (ds_tgt (de_ix ix_seq pr_ix (de_name 5) (de_name 1) (fun _ _ => rfl)) (pg_tup rfl (pgs_cons (pg_name (i := 13) sc_law.nd rfl (by first | exact .inl rfl | exact .inr rfl)) (pgs_cons (pg_name (i := 11) sc_law.nd rfl (by first | exact .inl rfl | exact .inr rfl)) (pgs_cons (pg_name (i := 16) sc_law.nd rfl (by first | exact .inl rfl | exact .inr rfl)) pgs_nil)))) (tq_many (tqs_cons 13 (tqs_cons 11 (tqs_cons 16 tqs_nil))))) (dss_cons (ds_setO 14 sc_law.nd (de_lst (da_cons (de_imm (de_bin op_addD pr_add (de_slice (de_name 5) do_none (do_some (de_name 1))) (de_slice (de_name 5) (do_some (de_bin op_addD pr_add (de_name 1) de_int)) do_none))) (da_cons (de_imm (de_bin op_addD pr_add (de_name 5) (de_slice (de_name 5) do_none (do_some de_int)))) (da_cons (de_callTy call_tuple_of pr_tuple rfl g.z_tuple PyProof.Rows.boot_tuple (da_cons (de_name 5) da_nil)) (da_cons (de_imm (de_bin op_addD pr_add (de_bin op_addD pr_add (de_slice (de_name 5) do_none (do_some (de_name 1))) (de_lst (da_cons (de_tup (da_cons (de_name 13) (da_cons (de_imm (de_bin op_addD pr_add (de_name 11) de_int)) (da_cons (de_name 16) da_nil)))) da_nil))) (de_slice (de_name 5) (do_some (de_bin op_addD pr_add (de_name 1) de_int)) do_none))) (da_cons de_non (da_cons de_str (da_cons (de_imm (de_bin op_addD pr_add (de_name 5) (de_lst (da_cons de_non da_nil)))) da_nil))))))))) (dss_cons (ds_setO 14 sc_law.nd (de_bin op_addD pr_add (de_name 14) (de_lst (da_cons (de_imm (de_bin op_addD pr_add (de_bin op_addD pr_add (de_slice (de_name 5) do_none (do_some (de_name 1))) (de_lst (da_cons (de_tup (da_cons (de_name 13) (da_cons (de_name 11) (da_cons (de_imm (de_callTy call_list_of pr_list rfl g.z_list PyProof.Rows.boot_list (da_cons (de_name 16) da_nil))) da_nil)))) da_nil))) (de_slice (de_name 5) (do_some (de_bin op_addD pr_add (de_name 1) de_int)) do_none))) (da_cons (de_imm (de_bin op_addD pr_add (de_bin op_addD pr_add (de_slice (de_name 5) do_none (do_some (de_name 1))) (de_lst (da_cons (de_tup (da_cons (de_name 13) (da_cons (de_name 11) da_nil))) da_nil))) (de_slice (de_name 5) (do_some (de_bin op_addD pr_add (de_name 1) de_int)) do_none))) da_nil))))) (dss_cons (ds_setO 14 sc_law.nd (de_bin op_addD pr_add (de_name 14) (de_lst (da_cons (de_imm (de_bin op_addD pr_add (de_bin op_addD pr_add (de_slice (de_name 5) do_none (do_some (de_name 1))) (de_lst (da_cons (de_tup (da_cons (de_name 13) (da_cons (de_name 11) (da_cons (de_imm (de_bin op_addD pr_add (de_name 16) (de_tup (da_cons (de_name 10) da_nil)))) da_nil)))) da_nil))) (de_slice (de_name 5) (do_some (de_bin op_addD pr_add (de_name 1) de_int)) do_none))) (da_cons (de_imm (de_bin op_addD pr_add (de_bin op_addD pr_add (de_slice (de_name 5) do_none (do_some (de_name 1))) (de_lst (da_cons (de_tup (da_cons (de_imm (de_bin op_addD pr_add (de_name 11) (de_name 13))) (da_cons (de_name 11) (da_cons (de_name 16) da_nil)))) da_nil))) (de_slice (de_name 5) (do_some (de_bin op_addD pr_add (de_name 1) de_int)) do_none))) da_nil))))) (dss_cons (ds_if (dt_cmp op_gt pr_cmp (de_callB call_len_seq pr_len rfl g.z_len PySem.boot_len (da_cons (de_name 5) da_nil)) de_int (nomark _)) (dss_one (ds_app 14 (de_revL (de_name 5)) (ht := pe_bm PySem.F.plainAttrs_list PySem.F.slot_list_append PySem.F.type_list_append mt_append (pv 14) (pa_cons (de_imm (de_revL (de_name 5))) pa_nil)))) dss_nil) (dss_frz 14 (dss_cons (ds_if (dt_cmp op_notBl pr_notB (de_call (ok_are_shapes g) (hr.mono (by omega)) g.g_are_shapes g.F_are_shapes.kp g.b_are_shapes (takes_of rfl rfl rfl rfl) (da_cons (de_name 12) (da_cons (de_name 7) (da_cons (de_imm (de_call (ok__law_some g) (hr.mono (by omega)) g.g__law_some g.F__law_some.kp g.b__law_some (takes_of rfl rfl rfl rfl) (da_cons (de_name 3) (da_cons (de_name 14) da_nil)))) da_nil)))) de_bl (nomark _)) (dss_one (ds_ret de_bl)) dss_nil) (dss_cons (ds_setI 18 sc_law.nd (de_call (ok__law_some g) (hr.mono (by omega)) g.g__law_some g.F__law_some.kp g.b__law_some (takes_of rfl rfl rfl rfl) (da_cons (de_name 3) (da_cons (de_dix (hu1 hr) (de_name 8) (de_call (ok__law_some g) (hr.mono (by omega)) g.g__law_some g.F__law_some.kp g.b__law_some (takes_of rfl rfl rfl rfl) (da_cons (de_name 3) (da_cons (de_imm (de_sortD rfl hr.units rfl g.z_sorted (de_name 8))) da_nil))) (fun _ _ => rfl)) da_nil)))) (dss_cons (ds_if (dt_not (dt_val (de_call (ok__law_kept g 12) (hr.mono (by omega)) g.g__law_kept g.F__law_kept.kp g.b__law_kept (takes_of rfl rfl rfl rfl) (da_cons (de_imm (de_call (ok_are_shapes g) (hr.mono (by omega)) g.g_are_shapes g.F_are_shapes.kp g.b_are_shapes (takes_of rfl rfl rfl rfl) (da_cons (de_name 12) (da_cons (de_name 7) (da_cons (de_imm (de_bin op_addD pr_add (de_bin op_addD pr_add (de_slice (de_name 5) do_none (do_some (de_name 1))) (de_lst (da_cons (de_tup (da_cons (de_name 13) (da_cons (de_name 11) (da_cons (de_name 18) da_nil)))) da_nil))) (de_slice (de_name 5) (do_some (de_bin op_addD pr_add (de_name 1) de_int)) do_none))) da_nil))))) (da_cons (de_cmp (op_mem (hu65 hr)) pr_in (de_name 18) (de_dix (hu1 hr) (de_name 8) (de_tup (da_cons (de_name 13) (da_cons (de_name 11) da_nil))) (fun _ _ => rfl)) (by rfl)) da_nil))))) (dss_one (ds_ret de_bl)) dss_nil) (dss_cons (ds_setI 17 sc_law.nd (de_lst (da_cons (de_imm (de_callTy call_list_of pr_list rfl g.z_list PyProof.Rows.boot_list (da_cons (de_name 7) da_nil))) (da_cons (de_imm (de_slice (de_name 7) (do_some de_int) do_none)) (da_cons (de_imm (de_bin op_addD pr_add (de_name 7) (de_slice (de_name 7) do_none (do_some de_int)))) (da_cons de_non (da_cons (de_imm (de_bin op_addD pr_add (de_tup (da_cons (de_tup (da_cons de_int (da_cons de_int da_nil))) da_nil)) (de_slice (de_name 7) (do_some de_int) do_none))) (da_cons (de_imm (de_bin op_addD pr_add (de_tup (da_cons (de_tup (da_cons de_int (da_cons de_bl da_nil))) da_nil)) (de_slice (de_name 7) (do_some de_int) do_none))) (da_cons (de_imm (de_bin op_addD pr_add (de_tup (da_cons (de_tup (da_cons de_int da_nil)) da_nil)) (de_slice (de_name 7) (do_some de_int) do_none))) (da_cons de_int da_nil)))))))))) (dss_cons (ds_setI 17 sc_law.nd (de_bin op_addD pr_add (de_name 17) (de_lst (da_cons (de_imm (de_bin op_addD pr_add (de_tup (da_cons (de_tup (da_cons (de_imm (de_bin op_addD pr_add (de_bin op_pow pr_pow de_int de_int) de_int)) (da_cons de_int da_nil))) da_nil)) (de_slice (de_name 7) (do_some de_int) do_none))) (da_cons (de_imm (de_bin op_addD pr_add (de_tup (da_cons (de_imm (de_lst (da_cons de_int (da_cons de_int da_nil)))) da_nil)) (de_slice (de_name 7) (do_some de_int) do_none))) (da_cons (de_imm (de_bin op_addD pr_add (de_tup (da_cons de_non da_nil)) (de_slice (de_name 7) (do_some de_int) do_none))) da_nil)))))) (dss_one (ds_if (PW.pt (dw_or (dt_cmp (op_neD hr.units) pr_ne (de_call (ok__law_refusal g) (hr.mono (by omega)) g.g__law_refusal g.F__law_refusal.kp g.b__law_refusal (takes_of rfl rfl rfl rfl) (da_cons (de_name 12) (da_cons (de_imm (de_call (ok__law_some g) (hr.mono (by omega)) g.g__law_some g.F__law_some.kp g.b__law_some (takes_of rfl rfl rfl rfl) (da_cons (de_name 3) (da_cons (de_name 17) da_nil)))) da_nil))) de_str (nomark _)) (dw_or1 (dt_cmp (op_neD hr.units) pr_ne (de_call (ok__law_refusal g) (hr.mono (by omega)) g.g__law_refusal g.F__law_refusal.kp g.b__law_refusal (takes_of rfl rfl rfl rfl) (da_cons (de_imm (de_call (ok__law_some g) (hr.mono (by omega)) g.g__law_some g.F__law_some.kp g.b__law_some (takes_of rfl rfl rfl rfl) (da_cons (de_name 3) (da_cons (de_imm (de_lst (da_cons de_non (da_cons de_int (da_cons (de_tup da_nil) (da_cons (de_tup (da_cons de_str (da_cons de_int (da_cons de_int da_nil)))) da_nil)))))) da_nil)))) (da_cons de_non da_nil))) de_str (nomark _))))) (dss_one (ds_ret de_bl)) dss_nil)))))))))))))))))))))))) (dss_one (ds_ret de_bl))))
end
end DLP
end

set_option Elab.async false
set_option linter.all false
set_option maxRecDepth 100000
set_option maxHeartbeats 4000000
noncomputable section
namespace DLP
open PySem PySem.Spec PyProof.Rows DL
/-! ### the draws -/
theorem hEq_int (i j : Int) : hEq (.int i) (.int j) = some (.val (.bool (i == j))) := rfl
theorem hx0 {a b c d e : D} : hIx (.list [a, b, c, d, e]) (.int 0) = some (.val a) := rfl
theorem hx1 {a b c d e : D} : hIx (.list [a, b, c, d, e]) (.int 1) = some (.val b) := rfl
theorem hx2 {a b c d e : D} : hIx (.list [a, b, c, d, e]) (.int 2) = some (.val c) := rfl
theorem hx3 {a b c d e : D} : hIx (.list [a, b, c, d, e]) (.int 3) = some (.val d) := rfl
theorem hx4 {a b c d e : D} : hIx (.list [a, b, c, d, e]) (.int 4) = some (.val e) := rfl
theorem pa1 {a b c d e x : D} : putAt 1 x [a, b, c, d, e] = some [a, x, c, d, e] := rfl
theorem pa2 {a b c d e x : D} : putAt 2 x [a, b, c, d, e] = some [a, b, x, d, e] := rfl
theorem pa3 {a b c d e x : D} : putAt 3 x [a, b, c, d, e] = some [a, b, c, x, e] := rfl
theorem pa4 {a b c d e x : D} : putAt 4 x [a, b, c, d, e] = some [a, b, c, d, x] := rfl
theorem mul_r {i j : Int} (h : small64 j = true) : hMul (.int i) (.int j) = some (.val (.int (i * j))) := by
  show (if (small64 i || small64 j) = true then _ else _) = _
  rw [h, Bool.or_true]
  rfl
theorem mul_l {i j : Int} (h : small64 i = true) : hMul (.int i) (.int j) = some (.val (.int (i * j))) := by
  show (if (small64 i || small64 j) = true then _ else _) = _
  rw [h, Bool.true_or]
  rfl
theorem pow18 : hPow (.int 10) (.int 18) = some (.val (.int 1000000000000000000)) := rfl
theorem mod_ok {i j : Int} (h : j ≠ 0) : hMod (.int i) (.int j) = some (.val (.int (i.fmod j))) := if_pos h
theorem div_ok {i j : Int} (h : j ≠ 0) (h2 : j.natAbs < 1073741824) : hDiv (.int i) (.int j) = some (.val (.int (i.fdiv j))) := if_pos ⟨h, h2⟩
def Hand (xs : List D) : Prop := ∃ (cells : List Int) (pos left mix count : Int), xs = [.list (cells.map .int), .int pos, .int left, .int mix, .int count] ∧ (∀ c ∈ cells, 0 ≤ c) ∧ 0 ≤ pos ∧ 0 ≤ left
theorem ix_cell {cells : List Int} {pos : Int} (h0 : 0 ≤ pos) (h1 : pos < cells.length) : ∃ c, hIx (.list (cells.map .int)) (.int pos) = some (.val (.int c)) ∧ c ∈ cells := by
  obtain ⟨k, rfl⟩ : ∃ k : Nat, pos = k := ⟨pos.toNat, by omega⟩
  have hp : k < cells.length := by omega
  refine ⟨cells[k], ?_, List.getElem_mem hp⟩
  have e : (cells.map PyData.int)[k]? = some (.int cells[k]) := by
    rw [List.getElem?_map, List.getElem?_eq_getElem hp]
    rfl
  show (atF (cells.map PyData.int) k).map PO.val = _
  rw [atF_eq, L2.atI_nat e]
  rfl
theorem small_rem {i : Int} (h0 : 0 ≤ i) (h1 : i < 10000000000) : small64 i = true := by
  unfold small64
  rw [Bool.and_eq_true, decide_eq_true_eq, decide_eq_true_eq]
  omega
theorem m1 (i : Int) : hMul (.int i) (.int 48271) = some (.val (.int (i * 48271))) := mul_r rfl
theorem m2 (i : Int) : hMul (.int i) (.int 69621) = some (.val (.int (i * 69621))) := mul_r rfl
theorem m3 (j : Int) : hMul (.int 6007) (.int j) = some (.val (.int (6007 * j))) := mul_l rfl
theorem m4 (i j : Int) : hMul (.int (i.fmod 2147483629)) (.int j) = some (.val (.int (i.fmod 2147483629 * j))) := mul_l (small_rem (Int.fmod_nonneg_of_pos _ (by decide)) (by have := Int.fmod_lt_of_pos i (show (0 : Int) < 2147483629 by decide); omega))
theorem m5 (i j : Int) : hMul (.int (i.fmod 2147483647)) (.int j) = some (.val (.int (i.fmod 2147483647 * j))) := mul_l (small_rem (Int.fmod_nonneg_of_pos _ (by decide)) (by have := Int.fmod_lt_of_pos i (show (0 : Int) < 2147483647 by decide); omega))
theorem r1 (i : Int) : hMod (.int i) (.int 2147483647) = some (.val (.int (i.fmod 2147483647))) := mod_ok (by decide)
theorem r2 (i : Int) : hMod (.int i) (.int 2147483629) = some (.val (.int (i.fmod 2147483629))) := mod_ok (by decide)
theorem r3 (i : Int) : hMod (.int i) (.int 2147483587) = some (.val (.int (i.fmod 2147483587))) := mod_ok (by decide)
theorem q1 (i : Int) : hDiv (.int i) (.int 1013) = some (.val (.int (i.fdiv 1013))) := div_ok (by decide) (by decide)
theorem q2 (i : Int) : hDiv (.int i) (.int 2011) = some (.val (.int (i.fdiv 2011))) := div_ok (by decide) (by decide)
theorem q3 (i : Int) : hDiv (.int i) (.int 32) = some (.val (.int (i.fdiv 32))) := div_ok (by decide) (by decide)
/-- the draw's contract -/
theorem draw_ok {xs : List D} (h : Hand xs) {n : Int} (h1 : 1 ≤ n) (h2 : n ≤ 1000000) : ∃ d xs', 0 ≤ d ∧ d < n ∧ Hand xs' ∧ F__law_draw [.lent xs, .imm (.int n)] = .ret (.imm (.int d)) [.lent xs', .imm (.int n)] := by
  obtain ⟨cells, pos, left, mix, count, rfl, hc, hp, hl⟩ := h
  have nz : n ≠ 0 := by omega
  have na : n.natAbs < 1073741824 := by omega
  by_cases hleft : left > 0
  · -- digits of a great cell
    have e1 : (left == 0) = false := by
      rw [beq_eq_false_iff_ne]
      omega
    have e2 : decide (left > 0) = true := decide_eq_true hleft
    refine ⟨left.fmod n, _, ?_, ?_, ⟨cells, pos, left.fdiv n, mix, count, rfl, hc, hp, ?_⟩, ?_⟩
    · exact Int.fmod_nonneg_of_pos _ (by omega)
    · exact Int.fmod_lt_of_pos _ (by omega)
    · exact Int.fdiv_nonneg hl (by omega)
    · simp only [F__law_draw, B__law_draw, mkF, s0, av1, List.length_cons, List.length_nil, List.map_cons, List.map_nil, List.replicate, List.cons_append, List.nil_append, fSeq, fSetI, fSetO, fI, fCallF, faCons, faNil, fName, g0, gs, z0, zs, R.bind, R.stm, toAVs, slotsOf, toImm, setD, fIfS, fOr, fAnd, fNot, fTr, asB, Bool.not_true, Bool.not_false, fChain, fImm, fcLink, fcLast, view, hLe, hLt, hGe, hGt, hCmp, fCall, views, hLen, oR, poR, fNx, fRet, f1, f2, outA, Option.map, if_true, fSub, fPar, setM, setC, Option.map_some, hAdd, hSub, hInt, fDrop, fAndV, fOrV, fNotV, fLst, fTup, allImm, fTgt, fRetN, fBk, fCt, fRaise0, hx2, hEq_int, e1, e2, mod_ok nz, div_ok nz na, pa2]
  · have l0 : left = 0 := by omega
    subst l0
    have e1 : ((0 : Int) == 0) = true := rfl
    have e2 : decide ((0 : Int) > 0) = false := rfl
    by_cases hpos : pos < cells.length
    · obtain ⟨c, hix, hmem⟩ := ix_cell hp hpos
      have c0 := hc c hmem
      have e3 : decide (pos < (cells.length : Int)) = true := decide_eq_true hpos
      by_cases hbig : c ≥ 1000000000000000000
      · have e4 : decide (1000000000000000000 ≤ c) = true := decide_eq_true hbig
        have e5 : decide (c > 0) = true := decide_eq_true (by omega)
        refine ⟨c.fmod n, _, ?_, ?_, ⟨cells, pos + 1, c.fdiv n, (mix * 48271 + c + 11).fmod 2147483647, count, rfl, hc, by omega, ?_⟩, ?_⟩
        · exact Int.fmod_nonneg_of_pos _ (by omega)
        · exact Int.fmod_lt_of_pos _ (by omega)
        · exact Int.fdiv_nonneg c0 (by omega)
        · simp only [F__law_draw, B__law_draw, mkF, s0, av1, List.length_cons, List.length_nil, List.map_cons, List.map_nil, List.replicate, List.cons_append, List.nil_append, fSeq, fSetI, fSetO, fI, fCallF, faCons, faNil, fName, g0, gs, z0, zs, R.bind, R.stm, toAVs, slotsOf, toImm, setD, fIfS, fOr, fAnd, fNot, fTr, asB, Bool.not_true, Bool.not_false, fChain, fImm, fcLink, fcLast, view, hLe, hLt, hGe, hGt, hCmp, fCall, views, hLen, oR, poR, fNx, fRet, f1, f2, outA, Option.map, if_true, fSub, fPar, setM, setC, Option.map_some, hAdd, hSub, hInt, fDrop, fAndV, fOrV, fNotV, fLst, fTup, allImm, fTgt, fRetN, fBk, fCt, fRaise0, e3, e4, e5, hix, hx0, hx1, hx2, hx3, hx4, hEq_int, e1, e2, m1, m2, m3, m4, m5, r1, r2, r3, q1, q2, q3, pow18, mod_ok nz, div_ok nz na, pa1, pa2, pa3, pa4, List.length_map]
      · have e4 : decide (1000000000000000000 ≤ c) = false := decide_eq_false hbig
        refine ⟨?d, _, ?ha, ?hb, ⟨cells, pos + 1, 0, (mix * 48271 + c + 11).fmod 2147483647, count + 1, rfl, hc, by omega, by omega⟩, ?hc⟩
        case hc =>
          simp only [F__law_draw, B__law_draw, mkF, s0, av1, List.length_cons, List.length_nil, List.map_cons, List.map_nil, List.replicate, List.cons_append, List.nil_append, fSeq, fSetI, fSetO, fI, fCallF, faCons, faNil, fName, g0, gs, z0, zs, R.bind, R.stm, toAVs, slotsOf, toImm, setD, fIfS, fOr, fAnd, fNot, fTr, asB, Bool.not_true, Bool.not_false, fChain, fImm, fcLink, fcLast, view, hLe, hLt, hGe, hGt, hCmp, fCall, views, hLen, oR, poR, fNx, fRet, f1, f2, outA, Option.map, if_true, fSub, fPar, setM, setC, Option.map_some, hAdd, hSub, hInt, fDrop, fAndV, fOrV, fNotV, fLst, fTup, allImm, fTgt, fRetN, fBk, fCt, fRaise0, e3, e4, hix, hx0, hx1, hx2, hx3, hx4, hEq_int, e1, e2, m1, m2, m3, m4, m5, r1, r2, r3, q1, q2, q3, pow18, mod_ok nz, div_ok nz na, pa1, pa2, pa3, pa4, List.length_map]
          rfl
        · exact Int.fmod_nonneg_of_pos _ (by omega)
        · exact Int.fmod_lt_of_pos _ (by omega)
    · have e3 : decide (pos < (cells.length : Int)) = false := decide_eq_false hpos
      refine ⟨?d2, _, ?ha2, ?hb2, ⟨cells, pos, 0, mix, count + 1, rfl, hc, by omega, by omega⟩, ?hc2⟩
      case hc2 =>
        simp only [F__law_draw, B__law_draw, mkF, s0, av1, List.length_cons, List.length_nil, List.map_cons, List.map_nil, List.replicate, List.cons_append, List.nil_append, fSeq, fSetI, fSetO, fI, fCallF, faCons, faNil, fName, g0, gs, z0, zs, R.bind, R.stm, toAVs, slotsOf, toImm, setD, fIfS, fOr, fAnd, fNot, fTr, asB, Bool.not_true, Bool.not_false, fChain, fImm, fcLink, fcLast, view, hLe, hLt, hGe, hGt, hCmp, fCall, views, hLen, oR, poR, fNx, fRet, f1, f2, outA, Option.map, if_true, fSub, fPar, setM, setC, Option.map_some, hAdd, hSub, hInt, fDrop, fAndV, fOrV, fNotV, fLst, fTup, allImm, fTgt, fRetN, fBk, fCt, fRaise0, e3, hx0, hx1, hx2, hx3, hx4, hEq_int, e1, e2, m1, m2, m3, m4, m5, r1, r2, r3, q1, q2, q3, pow18, mod_ok nz, div_ok nz na, pa1, pa2, pa3, pa4, List.length_map]
        rfl
      · exact Int.fmod_nonneg_of_pos _ (by omega)
      · exact Int.fmod_lt_of_pos _ (by omega)
end DLP
end


set_option Elab.async false
set_option linter.all false
set_option maxRecDepth 100000
set_option maxHeartbeats 4000000
noncomputable section
namespace DLP
open PySem PySem.Spec PyProof.Rows DL
/-! ### a thing is kept by itself -/
def fitK : Nat → D → Bool
  | n + 1, .tuple ds => decide (ds.length ≤ mx) && ds.all (fitK n)
  | n + 1, .list ds => decide (ds.length ≤ mx) && ds.all (fitK n)
  | _ + 1, .dict _ => false
  | _ + 1, .str x => SeqAt.shaped (.str x)
  | _ + 1, _ => true
  | 0, _ => false
theorem asBools_rep : ∀ n : Nat, asBools (List.replicate n (.bool true)) = some (List.replicate n true)
  | 0 => rfl
  | n + 1 => by
    rw [List.replicate_succ, List.replicate_succ]
    show (asBools (List.replicate n (.bool true))).map (true :: ·) = _
    rw [asBools_rep n]
    rfl
theorem hAll_rep (n : Nat) : hAll [.list (List.replicate n (.bool true))] = some (.val (.bool true)) := by
  show (asBools _).map _ = _
  rw [asBools_rep]
  show some (PO.val (.bool ((List.replicate n true).all id))) = _
  rw [List.all_replicate]
  cases n <;> rfl
theorem rng_mem {n : Nat} {d : D} (h : d ∈ rgFrom 0 n) : ∃ i : Nat, i < n ∧ d = .int i := by
  obtain ⟨i, hi⟩ := List.mem_iff_getElem?.mp h
  have hl := (List.getElem?_eq_some_iff.mp hi).1
  rw [rgFrom_len] at hl
  refine ⟨i, hl, ?_⟩
  rw [rgFrom_get _ _ _ _ hi, Int.zero_add]
theorem bnd_mx {n : Nat} (h : n ≤ mx) : bnd62 n = true := by
  unfold bnd62
  have : mx = 16000000 := rfl
  rw [Bool.and_eq_true, decide_eq_true_eq, decide_eq_true_eq]
  omega
theorem ix_nat {ds : List D} {i : Nat} (h : i < ds.length) : hIx (.tuple ds) (.int i) = some (.val ds[i]) ∧ hIx (.list ds) (.int i) = some (.val ds[i]) := by
  have e : atF ds i = some ds[i] := by
    rw [atF_eq, L2.atI_nat (List.getElem?_eq_getElem h)]
  constructor
  · show (atF ds i).map PO.val = _
    rw [e]
    rfl
  · show (atF ds i).map PO.val = _
    rw [e]
    rfl
theorem kept_refl : ∀ (n : Nat) (d : D), fitK n d = true → F__law_kept n [.imm d, .imm d] = .ret (.imm (.bool true)) [.imm d, .imm d]
  | 0, d, h => by cases d <;> cases h
  | n + 1, .none, h => rfl
  | n + 1, .bool true, h => rfl
  | n + 1, .bool false, h => rfl
  | n + 1, .int i, h => by
    refine mkF_imm rfl (s := [some (.imm (.int i)), some (.imm (.int i)), none]) ?_ rfl
    refine seq_nx (ifS_f (s1 := [some (.imm (.int i)), some (.imm (.int i)), none]) rfl rfl) ?_
    refine seq_nx (ifS_f (s1 := [some (.imm (.int i)), some (.imm (.int i)), none]) rfl rfl) ?_
    refine seq_nx (ifS_f (s1 := [some (.imm (.int i)), some (.imm (.int i)), none]) rfl rfl) ?_
    refine seq_rt (ifS_t (s1 := [some (.imm (.int i)), some (.imm (.int i)), none]) rfl ?_)
    refine ret_imm ((andV_t (v := .imm (.bool true)) (s1 := [some (.imm (.int i)), some (.imm (.int i)), none]) rfl rfl).trans ((andV_t (v := .imm (.bool true)) (s1 := [some (.imm (.int i)), some (.imm (.int i)), none]) rfl rfl).trans ?_))
    refine (f2_ok (s1 := [some (.imm (.int i)), some (.imm (.int i)), none]) (s2 := [some (.imm (.int i)), some (.imm (.int i)), none]) rfl rfl rfl rfl rfl).trans ?_
    show R.ok (RV.imm (.bool (decide (i = i)))) _ = _
    rw [decide_eq_true rfl]
  | n + 1, .str x, h => by
    refine mkF_imm rfl (s := [some (.imm (.str x)), some (.imm (.str x)), none]) ?_ rfl
    refine seq_nx (ifS_f (s1 := [some (.imm (.str x)), some (.imm (.str x)), none]) rfl rfl) ?_
    refine seq_nx (ifS_f (s1 := [some (.imm (.str x)), some (.imm (.str x)), none]) rfl rfl) ?_
    refine seq_nx (ifS_f (s1 := [some (.imm (.str x)), some (.imm (.str x)), none]) rfl rfl) ?_
    refine seq_nx (ifS_f (s1 := [some (.imm (.str x)), some (.imm (.str x)), none]) rfl rfl) ?_
    refine ret_imm ((andV_t (v := .imm (.bool true)) (s1 := [some (.imm (.str x)), some (.imm (.str x)), none]) rfl rfl).trans ?_)
    have q : hEq (.str x) (.str x) = some (.val (.bool true)) := by
      have hs : SeqAt.shaped (.str x) = true := h
      simp [hEq, eqF, hs, PyData.eqv]
    exact (f2_ok (s1 := [some (.imm (.str x)), some (.imm (.str x)), none]) (s2 := [some (.imm (.str x)), some (.imm (.str x)), none]) rfl rfl rfl rfl q)
  | n + 1, .dict xs, h => by cases h
  | n + 1, .tuple ds, h => by
    have h' : (decide (ds.length ≤ mx) && ds.all (fitK n)) = true := h
    rw [Bool.and_eq_true, decide_eq_true_eq, List.all_eq_true] at h'
    refine mkF_imm rfl (s := [some (.imm (.tuple ds)), some (.imm (.tuple ds)), none]) ?_ rfl
    refine seq_rt (ifS_t (s1 := [some (.imm (.tuple ds)), some (.imm (.tuple ds)), none]) rfl ?_)
    refine seq_nx (ifS_f (s1 := [some (.imm (.tuple ds)), some (.imm (.tuple ds)), none]) rfl rfl) ?_
    refine ret_imm ((andV_t (v := .imm (.bool true)) (s1 := [some (.imm (.tuple ds)), some (.imm (.tuple ds)), none]) ?_ rfl).trans ?_)
    · refine (f2_ok (s1 := [some (.imm (.tuple ds)), some (.imm (.tuple ds)), none]) (s2 := [some (.imm (.tuple ds)), some (.imm (.tuple ds)), none]) rfl rfl rfl rfl rfl).trans ?_
      show R.ok (RV.imm (.bool (decide ((ds.length : Int) = ds.length)))) _ = _
      rw [decide_eq_true rfl]
    · have q := loopC_map (gg := gOne 2) (cond := fYes) (elt := (fI (fCallF (F__law_kept n) (faCons (f2 hIx (fName 0) (fName 2)) (faCons (f2 hIx (fName 1) (fName 2)) faNil))))) (vs := [2]) (s := [some (.imm (.tuple ds)), some (.imm (.tuple ds)), none]) (f := fun _ => .bool true) (rgFrom 0 ds.length) [] (fun d m => by
        obtain ⟨i, hi, rfl⟩ := rng_mem m
        have ih := kept_refl n ds[i] (h'.2 _ (List.getElem_mem hi))
        refine ⟨_, _, _, rfl, rfl, fI_imm (callF_imm (cons_ok (v := .imm ds[i]) (f2_ok rfl rfl rfl rfl (ix_nat hi).1) (cons_ok (v := .imm ds[i]) (f2_ok rfl rfl rfl rfl (ix_nat hi).1) rfl)) rfl rfl ih), rfl⟩) (by rw [rgFrom_len]; simpa using h'.1)
      rw [List.nil_append, List.map_const', rgFrom_len] at q
      have lc := lc_ok (it := fRng1 (faCons (fCall hLen (faCons (fName 1) faNil)) faNil)) (s := [some (.imm (.tuple ds)), some (.imm (.tuple ds)), none]) (s1 := [some (.imm (.tuple ds)), some (.imm (.tuple ds)), none]) (s2 := [some (.imm (.tuple ds)), some (.imm (.tuple ds)), none]) (s3 := [some (.imm (.tuple ds)), some (.imm (.tuple ds)), none]) (rng1_ok rfl h'.1) rfl q rfl
      exact call_val (cons_ok lc rfl) rfl (hAll_rep _)
  | n + 1, .list ds, h => by
    have h' : (decide (ds.length ≤ mx) && ds.all (fitK n)) = true := h
    rw [Bool.and_eq_true, decide_eq_true_eq, List.all_eq_true] at h'
    refine mkF_imm rfl (s := [some (.imm (.list ds)), some (.imm (.list ds)), none]) ?_ rfl
    refine seq_rt (ifS_t (s1 := [some (.imm (.list ds)), some (.imm (.list ds)), none]) rfl ?_)
    refine seq_nx (ifS_f (s1 := [some (.imm (.list ds)), some (.imm (.list ds)), none]) rfl rfl) ?_
    refine ret_imm ((andV_t (v := .imm (.bool true)) (s1 := [some (.imm (.list ds)), some (.imm (.list ds)), none]) ?_ rfl).trans ?_)
    · refine (f2_ok (s1 := [some (.imm (.list ds)), some (.imm (.list ds)), none]) (s2 := [some (.imm (.list ds)), some (.imm (.list ds)), none]) rfl rfl rfl rfl rfl).trans ?_
      show R.ok (RV.imm (.bool (decide ((ds.length : Int) = ds.length)))) _ = _
      rw [decide_eq_true rfl]
    · have q := loopC_map (gg := gOne 2) (cond := fYes) (elt := (fI (fCallF (F__law_kept n) (faCons (f2 hIx (fName 0) (fName 2)) (faCons (f2 hIx (fName 1) (fName 2)) faNil))))) (vs := [2]) (s := [some (.imm (.list ds)), some (.imm (.list ds)), none]) (f := fun _ => .bool true) (rgFrom 0 ds.length) [] (fun d m => by
        obtain ⟨i, hi, rfl⟩ := rng_mem m
        have ih := kept_refl n ds[i] (h'.2 _ (List.getElem_mem hi))
        refine ⟨_, _, _, rfl, rfl, fI_imm (callF_imm (cons_ok (v := .imm ds[i]) (f2_ok rfl rfl rfl rfl (ix_nat hi).2) (cons_ok (v := .imm ds[i]) (f2_ok rfl rfl rfl rfl (ix_nat hi).2) rfl)) rfl rfl ih), rfl⟩) (by rw [rgFrom_len]; simpa using h'.1)
      rw [List.nil_append, List.map_const', rgFrom_len] at q
      have lc := lc_ok (it := fRng1 (faCons (fCall hLen (faCons (fName 1) faNil)) faNil)) (s := [some (.imm (.list ds)), some (.imm (.list ds)), none]) (s1 := [some (.imm (.list ds)), some (.imm (.list ds)), none]) (s2 := [some (.imm (.list ds)), some (.imm (.list ds)), none]) (s3 := [some (.imm (.list ds)), some (.imm (.list ds)), none]) (rng1_ok rfl h'.1) rfl q rfl
      exact call_val (cons_ok lc rfl) rfl (hAll_rep _)
end DLP
end


set_option Elab.async false
set_option linter.all false
set_option maxRecDepth 100000
set_option maxHeartbeats 4000000
noncomputable section
namespace DLP
open PySem PySem.Spec PyProof.Rows DL
/-! ### the hand -/
theorem cut63 (ns : List D) : DL.cutD ns none (some 63) = ns.take 63 := by
  unfold DL.cutD
  rw [HT.sIx_none, show HT.sIx ns.length ns.length (some 63) = min 63 ns.length from HT.sIx_nat ns.length ns.length 63, Nat.sub_zero, List.drop_zero]
  by_cases h : 63 ≤ ns.length
  · rw [Nat.min_eq_left h]
  · rw [Nat.min_eq_right (by omega), List.take_of_length_le (Nat.le_refl _), List.take_of_length_le (by omega)]
def absI (z : Int) : Int := if z < 0 then -z else z
theorem absI_nn (z : Int) : 0 ≤ absI z := by
  unfold absI
  split <;> omega
def absD : D → D
  | .int z => .int (absI z)
  | _ => .none
theorem hand_ok (ns : List Int) : ∃ xs, Hand xs ∧ F__law_hand [.imm (.list (ns.map .int))] = .ret (.tmp xs) [.imm (.list (ns.map .int))] := by
  have hmul : ∀ j : Int, hMul (.int 7) (.int j) = some (.val (.int (7 * j))) := fun j => mul_l rfl
  have q := loopC_map (gg := gOne 1) (cond := fYes) (elt := (fCall hAbs (faCons (fCall hInt (faCons (fName 1) faNil)) faNil))) (vs := [1]) (s := [some (.imm (.list (ns.map .int))), none, none]) (f := absD) ((ns.take 63).map .int) [] (fun d m => by
      obtain ⟨z, _, rfl⟩ := List.mem_map.mp m
      exact ⟨[some (.imm (.list (ns.map .int))), some (.imm (.int z)), none], [some (.imm (.list (ns.map .int))), some (.imm (.int z)), none], [some (.imm (.list (ns.map .int))), some (.imm (.int z)), none], rfl, rfl, rfl, rfl⟩) (by
      rw [List.length_nil, List.length_map, List.length_take]
      have : mx = 16000000 := rfl
      omega)
  rw [List.nil_append, List.map_map] at q
  have e1 : fSl (fName 0) foNone (foSome (fImm (.int 63))) [some (.imm (.list (ns.map .int))), none, none] = .ok (.tmp ((ns.take 63).map .int)) [some (.imm (.list (ns.map .int))), none, none] := by
    have : DL.cutD (ns.map PyData.int) none (some 63) = (ns.take 63).map .int := by rw [cut63, List.map_take]
    rw [← this]
    rfl
  have lc := lc_ok (it := fIt (fI (fSl (fName 0) foNone (foSome (fImm (.int 63)))))) (s := [some (.imm (.list (ns.map .int))), none, none]) (s1 := [some (.imm (.list (ns.map .int))), none, none]) (s2 := [some (.imm (.list (ns.map .int))), none, none]) (s3 := [some (.imm (.list (ns.map .int))), none, none]) (it_list (fI_tmp e1)) rfl q rfl
  have em : (List.map (absD ∘ PyData.int) (ns.take 63)) = ((ns.take 63).map absI).map PyData.int := by
    rw [List.map_map]
    rfl
  rw [em] at lc
  refine ⟨_, ⟨(ns.take 63).map absI, 0, 0, 31 + 7 * (((ns.take 63).map absI).length : Nat), 0, rfl, fun c m => ?_, by omega, by omega⟩, ?_⟩
  · obtain ⟨z, _, rfl⟩ := List.mem_map.mp m
    exact absI_nn z
  · refine mkF_tmp rfl (s := [some (.imm (.list (ns.map .int))), none, some (.imm (.list (((ns.take 63).map absI).map .int)))]) ?_ rfl
    refine seq_nx (setI_tmp lc rfl) ?_
    refine ret_tmp ?_
    simp only [mkF, s0, av1, List.length_cons, List.length_nil, List.map_cons, List.map_nil, List.replicate, List.cons_append, List.nil_append, fSeq, fSetI, fSetO, fI, fCallF, faCons, faNil, fName, g0, gs, z0, zs, R.bind, R.stm, toAVs, slotsOf, toImm, setD, fIfS, fOr, fAnd, fNot, fTr, asB, Bool.not_true, Bool.not_false, fChain, fImm, fcLink, fcLast, view, hLe, hLt, hGe, hGt, hCmp, fCall, views, hLen, oR, poR, fNx, fRet, f1, f2, outA, Option.map, if_true, fSub, fPar, setM, setC, Option.map_some, hAdd, hSub, hInt, fDrop, fAndV, fOrV, fNotV, fLst, fTup, allImm, fTgt, fRetN, fBk, fCt, fRaise0, hmul, List.length_map]
    exact if_pos (by decide)
/-- a thing of a lot, drawn -/
theorem some_ok {xs : List D} (h : Hand xs) {ds : List D} (h1 : 1 ≤ ds.length) (h2 : ds.length ≤ 1000000) : ∃ (k : Nat) (d : D) (xs' : List D), ds[k]? = some d ∧ Hand xs' ∧ F__law_some [.lent xs, .imm (.list ds)] = .ret (.imm d) [.lent xs', .imm (.list ds)] := by
  obtain ⟨d, xs', d0, dn, hx, hF⟩ := draw_ok h (n := ds.length) (by omega) (by omega)
  obtain ⟨k, rfl⟩ : ∃ k : Nat, d = k := ⟨d.toNat, by omega⟩
  have hk : k < ds.length := by omega
  refine ⟨k, ds[k], xs', List.getElem?_eq_getElem hk, hx, mkF_imm rfl (s := [some (.lent xs'), some (.imm (.list ds))]) (ret_imm ?_) rfl⟩
  exact f2_val (r1 := .imm (.list ds)) (r2 := .imm (.int k)) rfl (callF_lent (rs := [.slot 0, .imm (.int ds.length)]) rfl rfl rfl hF rfl rfl rfl) rfl rfl (ix_nat hk).2
end DLP
end

set_option Elab.async false
set_option linter.all false
set_option maxRecDepth 100000
set_option maxHeartbeats 4000000
noncomputable section
namespace DLP
open PySem PySem.Spec PyProof.Rows DL
/-! ### cutting trees, boxes, fronts -/
inductive T where
  | leaf (r : Nat)
  | node (k : Bool) (a b : T)
def T.rooms : T → List Nat
  | .leaf r => [r]
  | .node _ a b => a.rooms ++ b.rooms
def T.dep : T → Nat
  | .leaf _ => 1
  | .node _ a b => max a.dep b.dep + 1
abbrev Bx := Int × Int
def mxI (i j : Int) : Int := if j > i then j else i
def comb (k : Bool) (p q : Bx) : Bx := if k then (p.1 + q.1, mxI p.2 q.2) else (mxI p.1 q.1, p.2 + q.2)
def boxT (sz : Nat → Bx) (m : Nat → Bool) : T → Bx
  | .leaf r => if m r then ((sz r).2, (sz r).1) else sz r
  | .node k a b => comb k (boxT sz m a) (boxT sz m b)
def le2 (p q : Bx) : Prop := p.1 ≤ q.1 ∧ p.2 ≤ q.2
theorem le2_refl (p : Bx) : le2 p p := ⟨Int.le_refl _, Int.le_refl _⟩
theorem le2_trans {p q r : Bx} (h : le2 p q) (h2 : le2 q r) : le2 p r := ⟨Int.le_trans h.1 h2.1, Int.le_trans h.2 h2.2⟩
theorem le2_anti {p q : Bx} (h : le2 p q) (h2 : le2 q p) : p = q := by
  obtain ⟨a, b⟩ := p
  obtain ⟨c, d⟩ := q
  have h3 := h.1
  have h4 := h.2
  have h5 := h2.1
  have h6 := h2.2
  dsimp only at h3 h4 h5 h6
  rw [Prod.mk.injEq]
  omega
theorem mxI_mono {i j k l : Int} (h : i ≤ k) (h2 : j ≤ l) : mxI i j ≤ mxI k l := by
  unfold mxI
  split <;> split <;> omega
theorem comb_mono {k : Bool} {p q p' q' : Bx} (h : le2 p p') (h2 : le2 q q') : le2 (comb k p q) (comb k p' q') := by
  cases k with
  | true => exact ⟨Int.add_le_add h.1 h2.1, mxI_mono h.2 h2.2⟩
  | false => exact ⟨mxI_mono h.1 h2.1, Int.add_le_add h.2 h2.2⟩
theorem boxT_congr {sz : Nat → Bx} {m m' : Nat → Bool} : ∀ (t : T), (∀ r ∈ t.rooms, m r = m' r) → boxT sz m t = boxT sz m' t
  | .leaf r, h => by
    unfold boxT
    rw [h r (List.mem_singleton.mpr rfl)]
  | .node k a b, h => by
    unfold boxT
    rw [boxT_congr a fun r hr => h r (List.mem_append_left _ hr), boxT_congr b fun r hr => h r (List.mem_append_right _ hr)]
/-- the list of all that no other one beats, wider ones behind -/
structure Fr (X : Bx → Prop) (L : List Bx) : Prop where
  asc : L.Pairwise fun p q => p.1 < q.1 ∧ q.2 < p.2
  sub : ∀ p ∈ L, X p
  dom : ∀ p, X p → ∃ q ∈ L, le2 q p
theorem asc_le {L : List Bx} (h : L.Pairwise fun p q => p.1 < q.1 ∧ q.2 < p.2) {p q : Bx} (hp : p ∈ L) (hq : q ∈ L) (hl : le2 p q) : p = q := by
  induction L with
  | nil => cases hp
  | cons x L ih =>
    obtain ⟨h1, h2⟩ := List.pairwise_cons.mp h
    have l1 := hl.1
    have l2 := hl.2
    rcases List.mem_cons.mp hp with e | hp <;> rcases List.mem_cons.mp hq with e2 | hq
    · rw [e, e2]
    · have := h1 q hq
      subst e
      omega
    · have := h1 p hp
      subst e2
      omega
    · exact ih h2 hp hq
theorem fr_mem {X : Bx → Prop} {L L' : List Bx} (h : Fr X L) (h' : Fr X L') {p : Bx} (hp : p ∈ L) : p ∈ L' := by
  obtain ⟨q, hq, h1⟩ := h'.dom p (h.sub p hp)
  obtain ⟨r, hr, h2⟩ := h.dom q (h'.sub q hq)
  have e := asc_le h.asc hr hp (le2_trans h2 h1)
  subst e
  rw [le2_anti h2 h1]
  exact hq
theorem asc_ext : ∀ {L L' : List Bx}, L.Pairwise (fun p q => p.1 < q.1 ∧ q.2 < p.2) → L'.Pairwise (fun p q => p.1 < q.1 ∧ q.2 < p.2) → (∀ p, p ∈ L ↔ p ∈ L') → L = L'
  | [], [], _, _, _ => rfl
  | [], y :: _, _, _, h => absurd ((h y).mpr (List.mem_cons_self ..)) (by simp)
  | x :: _, [], _, _, h => absurd ((h x).mp (List.mem_cons_self ..)) (by simp)
  | x :: L, y :: L', h1, h2, h => by
    obtain ⟨a1, a2⟩ := List.pairwise_cons.mp h1
    obtain ⟨b1, b2⟩ := List.pairwise_cons.mp h2
    have e : x = y := by
      rcases List.mem_cons.mp ((h x).mp (List.mem_cons_self ..)) with e | hx
      · exact e
      · rcases List.mem_cons.mp ((h y).mpr (List.mem_cons_self ..)) with e | hy
        · exact e.symm
        · have c1 := b1 x hx
          have c2 := a1 y hy
          omega
    subst e
    rw [asc_ext a2 b2 fun p => ?_]
    constructor
    · intro hp
      rcases List.mem_cons.mp ((h p).mp (List.mem_cons_of_mem _ hp)) with e | hp'
      · subst e
        have := a1 p hp
        omega
      · exact hp'
    · intro hp
      rcases List.mem_cons.mp ((h p).mpr (List.mem_cons_of_mem _ hp)) with e | hp'
      · subst e
        have := b1 p hp
        omega
      · exact hp'
theorem fr_uniq {X : Bx → Prop} {L L' : List Bx} (h : Fr X L) (h' : Fr X L') : L = L' := asc_ext h.asc h'.asc fun _ => ⟨fr_mem h h', fr_mem h' h⟩
/-! ### shapes: box and rooms turned -/
structure Sh where
  w : Int
  h : Int
  l : List Nat
def Sh.bx (x : Sh) : Bx := (x.w, x.h)
def lx (x y : Sh) : Prop := x.w < y.w ∨ (x.w = y.w ∧ x.h ≤ y.h)
def fewGo : Option Int → List Sh → List Sh
  | _, [] => []
  | none, x :: xs => x :: fewGo (some x.h) xs
  | some o, x :: xs => if x.h < o then x :: fewGo (some x.h) xs else fewGo (some o) xs
theorem few_sub : ∀ (L : List Sh) (o : Option Int), ∀ x ∈ fewGo o L, x ∈ L ∧ ∀ h, o = some h → x.h < h
  | [], o, x, hx => by
    cases o <;> cases hx
  | y :: L, none, x, hx => by
    rcases List.mem_cons.mp hx with e | hx
    · subst e
      exact ⟨List.mem_cons_self .., fun h z => nomatch z⟩
    · exact ⟨List.mem_cons_of_mem _ (few_sub L _ x hx).1, fun h z => nomatch z⟩
  | y :: L, some o, x, hx => by
    unfold fewGo at hx
    split at hx
    · rename_i c
      rcases List.mem_cons.mp hx with e | hx
      · subst e
        exact ⟨List.mem_cons_self .., fun h z => by cases z; exact c⟩
      · obtain ⟨h1, h2⟩ := few_sub L _ x hx
        exact ⟨List.mem_cons_of_mem _ h1, fun h z => by cases z; have := h2 _ rfl; omega⟩
    · obtain ⟨h1, h2⟩ := few_sub L _ x hx
      exact ⟨List.mem_cons_of_mem _ h1, h2⟩
theorem few_cons {L : List Sh} {x : Sh} (h1 : ∀ y ∈ L, lx x y) (ih : (fewGo (some x.h) L).Pairwise fun x y => x.w < y.w ∧ y.h < x.h) : (x :: fewGo (some x.h) L).Pairwise fun x y => x.w < y.w ∧ y.h < x.h :=
  List.pairwise_cons.mpr ⟨fun y hy => by
    obtain ⟨h3, h4⟩ := few_sub L _ y hy
    have h5 := h1 y h3
    have h6 := h4 _ rfl
    unfold lx at h5
    omega, ih⟩
theorem few_asc : ∀ (L : List Sh) (o : Option Int), L.Pairwise lx → (fewGo o L).Pairwise fun x y => x.w < y.w ∧ y.h < x.h
  | [], o, _ => by
    cases o <;> exact .nil
  | x :: L, none, h => few_cons (List.pairwise_cons.mp h).1 (few_asc L _ (List.pairwise_cons.mp h).2)
  | x :: L, some o, h => by
    unfold fewGo
    split
    · exact few_cons (List.pairwise_cons.mp h).1 (few_asc L _ (List.pairwise_cons.mp h).2)
    · exact few_asc L _ (List.pairwise_cons.mp h).2
theorem few_dom : ∀ (L : List Sh) (o : Option Int), L.Pairwise lx → ∀ x ∈ L, (∃ h, o = some h ∧ h ≤ x.h) ∨ ∃ y ∈ fewGo o L, le2 y.bx x.bx
  | [], _, _, x, hx => by cases hx
  | y :: L, none, h, x, hx => by
    obtain ⟨h1, h2⟩ := List.pairwise_cons.mp h
    rcases List.mem_cons.mp hx with e | hx
    · subst e
      exact .inr ⟨x, List.mem_cons_self .., le2_refl _⟩
    · rcases few_dom L (some y.h) h2 x hx with ⟨_, e, h3⟩ | ⟨z, hz, h3⟩
      · cases e
        have := h1 x hx
        unfold lx at this
        exact .inr ⟨y, List.mem_cons_self .., ⟨by show y.w ≤ x.w; omega, h3⟩⟩
      · exact .inr ⟨z, List.mem_cons_of_mem _ hz, h3⟩
  | y :: L, some o, h, x, hx => by
    obtain ⟨h1, h2⟩ := List.pairwise_cons.mp h
    unfold fewGo
    split
    · rename_i c
      rcases List.mem_cons.mp hx with e | hx
      · subst e
        exact .inr ⟨x, List.mem_cons_self .., le2_refl _⟩
      · rcases few_dom L (some y.h) h2 x hx with ⟨_, e, h3⟩ | ⟨z, hz, h3⟩
        · cases e
          have := h1 x hx
          unfold lx at this
          exact .inr ⟨y, List.mem_cons_self .., ⟨by show y.w ≤ x.w; omega, h3⟩⟩
        · exact .inr ⟨z, List.mem_cons_of_mem _ hz, h3⟩
    · rename_i c
      rcases List.mem_cons.mp hx with e | hx
      · subst e
        exact .inl ⟨o, rfl, by omega⟩
      · exact few_dom L (some o) h2 x hx
theorem few_fr {L : List Sh} (h : L.Pairwise lx) : Fr (fun p => ∃ x ∈ L, x.bx = p) ((fewGo none L).map Sh.bx) where
  asc := List.pairwise_map.mpr (few_asc L none h)
  sub p hp := by
    obtain ⟨x, hx, e⟩ := List.mem_map.mp hp
    exact ⟨x, (few_sub L none x hx).1, e⟩
  dom p hp := by
    obtain ⟨x, hx, rfl⟩ := hp
    rcases few_dom L none h x hx with ⟨_, e, _⟩ | ⟨y, hy, h1⟩
    · cases e
    · exact ⟨y.bx, List.mem_map.mpr ⟨y, hy, rfl⟩, h1⟩
/-- a shape list of a tree: the front of all turnings, each with rooms that make it -/
structure Good (sz : Nat → Bx) (t : T) (L : List Sh) : Prop where
  fr : Fr (fun p => ∃ m, boxT sz m t = p) (L.map Sh.bx)
  nd : ∀ x ∈ L, x.l.Nodup
  rm : ∀ x ∈ L, ∀ r ∈ x.l, r ∈ t.rooms
  bx : ∀ x ∈ L, boxT sz (fun r => decide (r ∈ x.l)) t = x.bx
def put (k : Bool) (x y : Sh) : Sh := ⟨(comb k x.bx y.bx).1, (comb k x.bx y.bx).2, x.l ++ y.l⟩
theorem put_bx (k : Bool) (x y : Sh) : (put k x y).bx = comb k x.bx y.bx := rfl
/-- the list of all pairs put together -/
def puts (k : Bool) (A B : List Sh) : List Sh := A.flatMap fun x => B.map fun y => put k x y
theorem mem_puts {k : Bool} {A B : List Sh} {z : Sh} : z ∈ puts k A B ↔ ∃ x ∈ A, ∃ y ∈ B, put k x y = z := by
  unfold puts
  rw [List.mem_flatMap]
  constructor
  · rintro ⟨x, hx, h⟩
    obtain ⟨y, hy, e⟩ := List.mem_map.mp h
    exact ⟨x, hx, y, hy, e⟩
  · rintro ⟨x, hx, y, hy, e⟩
    exact ⟨x, hx, List.mem_map.mpr ⟨y, hy, e⟩⟩
theorem good_node {sz : Nat → Bx} {k : Bool} {a b : T} {A B L : List Sh} (ha : Good sz a A) (hb : Good sz b B) (hn : (T.node k a b).rooms.Nodup) (hm : ∀ x, x ∈ L ↔ x ∈ puts k A B) (hL : L.Pairwise lx) : Good sz (.node k a b) (fewGo none L) := by
  have hd := List.nodup_append.mp hn
  have hf := few_fr hL
  have box : ∀ x ∈ A, ∀ y ∈ B, boxT sz (fun r => decide (r ∈ (put k x y).l)) (.node k a b) = (put k x y).bx := fun x hx y hy => by
    rw [put_bx, ← ha.bx x hx, ← hb.bx y hy]
    show comb k _ _ = _
    rw [boxT_congr a (m' := fun r => decide (r ∈ x.l)) fun r hr => ?_, boxT_congr b (m' := fun r => decide (r ∈ y.l)) fun r hr => ?_]
    · refine decide_eq_decide.mpr ⟨fun z => ?_, fun z => List.mem_append_right _ z⟩
      rcases List.mem_append.mp z with z | z
      · exact absurd rfl (hd.2.2 r (ha.rm x hx r z) r hr)
      · exact z
    · refine decide_eq_decide.mpr ⟨fun z => ?_, fun z => List.mem_append_left _ z⟩
      rcases List.mem_append.mp z with z | z
      · exact z
      · exact absurd rfl (hd.2.2 r hr r (hb.rm y hy r z))
  refine ⟨⟨hf.asc, fun p hp => ?_, fun p hp => ?_⟩, fun z hz => ?_, fun z hz r hr => ?_, fun z hz => ?_⟩
  · obtain ⟨z, hz, e⟩ := hf.sub p hp
    obtain ⟨x, hx, y, hy, e2⟩ := mem_puts.mp ((hm z).mp hz)
    subst e2
    exact ⟨_, (box x hx y hy).trans e⟩
  · obtain ⟨m, rfl⟩ := hp
    obtain ⟨_, hp1, l1⟩ := ha.fr.dom _ ⟨m, rfl⟩
    obtain ⟨x, hx, rfl⟩ := List.mem_map.mp hp1
    obtain ⟨_, hp2, l2⟩ := hb.fr.dom _ ⟨m, rfl⟩
    obtain ⟨y, hy, rfl⟩ := List.mem_map.mp hp2
    obtain ⟨q, hq, l3⟩ := hf.dom (put k x y).bx ⟨_, (hm _).mpr (mem_puts.mpr ⟨x, hx, y, hy, rfl⟩), rfl⟩
    exact ⟨q, hq, le2_trans l3 (comb_mono l1 l2)⟩
  · obtain ⟨x, hx, y, hy, e⟩ := mem_puts.mp ((hm z).mp (few_sub _ _ z hz).1)
    subst e
    exact List.nodup_append.mpr ⟨ha.nd x hx, hb.nd y hy, fun r h1 s h2 => hd.2.2 r (ha.rm x hx r h1) s (hb.rm y hy s h2)⟩
  · obtain ⟨x, hx, y, hy, e⟩ := mem_puts.mp ((hm z).mp (few_sub _ _ z hz).1)
    subst e
    rcases List.mem_append.mp hr with hr | hr
    · exact List.mem_append_left _ (ha.rm x hx r hr)
    · exact List.mem_append_right _ (hb.rm y hy r hr)
  · obtain ⟨x, hx, y, hy, e⟩ := mem_puts.mp ((hm z).mp (few_sub _ _ z hz).1)
    subst e
    exact box x hx y hy
theorem good_leaf {sz : Nat → Bx} {r : Nat} {L : List Sh} (hm : ∀ x, x ∈ L ↔ x ∈ [⟨(sz r).1, (sz r).2, []⟩, ⟨(sz r).2, (sz r).1, [r]⟩]) (hL : L.Pairwise lx) : Good sz (.leaf r) (fewGo none L) := by
  have hf := few_fr hL
  have cs : ∀ {x : Sh}, x ∈ L → x = ⟨(sz r).1, (sz r).2, []⟩ ∨ x = ⟨(sz r).2, (sz r).1, [r]⟩ := fun {x} h => by
    have := (hm x).mp h
    rw [List.mem_cons, List.mem_singleton] at this
    exact this
  have box : ∀ x ∈ L, boxT sz (fun s => decide (s ∈ x.l)) (.leaf r) = x.bx := fun x h => by
    rcases cs h with e | e
    · subst e
      rfl
    · subst e
      unfold boxT
      rw [if_pos (decide_eq_true (List.mem_singleton.mpr rfl))]
      rfl
  refine ⟨⟨hf.asc, fun p hp => ?_, fun p hp => ?_⟩, fun z hz => ?_, fun z hz s hs => ?_, fun z hz => box z (few_sub _ _ z hz).1⟩
  · obtain ⟨z, hz, e⟩ := hf.sub p hp
    exact ⟨_, (box z hz).trans e⟩
  · obtain ⟨m, rfl⟩ := hp
    refine hf.dom _ ?_
    unfold boxT
    cases m r with
    | true => exact ⟨_, (hm _).mpr (List.mem_cons_of_mem _ (List.mem_singleton.mpr rfl)), rfl⟩
    | false => exact ⟨_, (hm _).mpr (List.mem_cons_self ..), rfl⟩
  · rcases cs (few_sub _ _ z hz).1 with e | e
    · subst e
      exact .nil
    · subst e
      exact List.nodup_cons.mpr ⟨by simp, .nil⟩
  · rcases cs (few_sub _ _ z hz).1 with e | e
    · subst e
      cases hs
    · subst e
      exact hs
/-! ### sorting, by another order -/
section
variable {α : Type} {le : α → α → Bool}
def insB (le : α → α → Bool) (x : α) : List α → List α
  | [] => [x]
  | y :: r => if le x y then x :: y :: r else y :: insB le x r
def sortB (le : α → α → Bool) : List α → List α
  | [] => []
  | x :: r => insB le x (sortB le r)
theorem insB_mem {x y : α} : ∀ {r : List α}, y ∈ insB le x r ↔ y = x ∨ y ∈ r
  | [] => by simp [insB]
  | z :: r => by
    unfold insB
    split
    · rw [List.mem_cons]
    · rw [List.mem_cons, insB_mem, List.mem_cons]
      constructor
      · rintro (h | h | h)
        · exact .inr (.inl h)
        · exact .inl h
        · exact .inr (.inr h)
      · rintro (h | h | h)
        · exact .inr (.inl h)
        · exact .inl h
        · exact .inr (.inr h)
theorem sortB_mem {y : α} : ∀ {r : List α}, y ∈ sortB le r ↔ y ∈ r
  | [] => Iff.rfl
  | x :: r => by
    show y ∈ insB le x (sortB le r) ↔ _
    rw [insB_mem, sortB_mem, List.mem_cons]
theorem insB_pw {R : α → α → Prop} (h1 : ∀ x y, le x y = true → R x y) (h2 : ∀ x y, le x y = false → R y x) (tr : ∀ x y z, R x y → R y z → R x z) (x : α) : ∀ {r : List α}, r.Pairwise R → (insB le x r).Pairwise R
  | [], _ => List.pairwise_singleton _ _
  | y :: r, h => by
    obtain ⟨h3, h4⟩ := List.pairwise_cons.mp h
    unfold insB
    split
    · rename_i c
      exact List.pairwise_cons.mpr ⟨fun z hz => by
        rcases List.mem_cons.mp hz with e | hz
        · rw [e]; exact h1 _ _ c
        · exact tr _ _ _ (h1 _ _ c) (h3 z hz), h⟩
    · rename_i c
      exact List.pairwise_cons.mpr ⟨fun z hz => by
        rcases insB_mem.mp hz with e | hz
        · rw [e]; exact h2 _ _ (by simpa using c)
        · exact h3 z hz, insB_pw h1 h2 tr x h4⟩
theorem sortB_pw {R : α → α → Prop} (h1 : ∀ x y, le x y = true → R x y) (h2 : ∀ x y, le x y = false → R y x) (tr : ∀ x y z, R x y → R y z → R x z) : ∀ r : List α, (sortB le r).Pairwise R
  | [] => .nil
  | x :: r => insB_pw h1 h2 tr x (sortB_pw h1 h2 tr r)
theorem insB_len (x : α) : ∀ r : List α, (insB le x r).length = r.length + 1
  | [] => rfl
  | y :: r => by
    unfold insB
    split
    · rfl
    · rw [List.length_cons, insB_len x r, List.length_cons]
theorem sortB_len : ∀ r : List α, (sortB le r).length = r.length
  | [] => rfl
  | x :: r => by
    show (insB le x (sortB le r)).length = _
    rw [insB_len, sortB_len r, List.length_cons]
theorem insB_nd {x : α} : ∀ {r : List α}, x ∉ r → r.Nodup → (insB le x r).Nodup
  | [], _, _ => List.nodup_cons.mpr ⟨by simp, .nil⟩
  | y :: r, h, hn => by
    unfold insB
    split
    · exact List.nodup_cons.mpr ⟨h, hn⟩
    · obtain ⟨h1, h2⟩ := List.nodup_cons.mp hn
      refine List.nodup_cons.mpr ⟨fun z => ?_, insB_nd (fun z => h (List.mem_cons_of_mem _ z)) h2⟩
      rcases insB_mem.mp z with e | z
      · exact h (by rw [e]; exact List.mem_cons_self ..)
      · exact h1 z
theorem sortB_nd : ∀ {r : List α}, r.Nodup → (sortB le r).Nodup
  | [], _ => .nil
  | x :: r, h => by
    obtain ⟨h1, h2⟩ := List.nodup_cons.mp h
    exact insB_nd (fun z => h1 (sortB_mem.mp z)) (sortB_nd h2)
theorem insD_map (f : α → D) (x : α) : ∀ r : List α, insD (f x) (r.map f) = (insB (fun x y => leD (f x) (f y)) x r).map f
  | [] => rfl
  | y :: r => by
    show (if leD (f x) (f y) = true then _ else f y :: insD (f x) (r.map f)) = _
    unfold insB
    split
    · rfl
    · rw [insD_map f x r]
      rfl
theorem sortD_map (f : α → D) : ∀ r : List α, sortD (r.map f) = (sortB (fun x y => leD (f x) (f y)) r).map f
  | [] => rfl
  | x :: r => by
    show insD (f x) (sortD (r.map f)) = _
    rw [sortD_map f r, insD_map]
    rfl
end
end DLP
end

set_option Elab.async false
set_option linter.all false
set_option pp.maxSteps 300
set_option maxRecDepth 100000
set_option maxHeartbeats 4000000
noncomputable section
namespace DLP
open PySem PySem.Spec PyProof.Rows DL
theorem mx0 : (0 ≤ mx) = True := eq_true (by decide)
theorem mx1 : (0 + 1 ≤ mx) = True := eq_true (by decide)
theorem mx2 : (0 + 1 + 1 ≤ mx) = True := eq_true (by decide)
theorem mx3 : (0 + 1 + 1 + 1 ≤ mx) = True := eq_true (by decide)
/-! ### trees and lots as data -/
def natD (r : Nat) : D := .int r
def kS (k : Bool) : Str := if k then "up" else "level"
def encT : T → D
  | .leaf r => .int r
  | .node k a b => .tuple [.str (kS k), encT a, encT b]
def bxD (p : Bx) : D := .tuple [.int p.1, .int p.2]
def szD (L : List Bx) : D := .tuple (L.map bxD)
def lotD (l : List Nat) : D := .tuple (l.map natD)
theorem ix_of {ds : List D} {i : Nat} {d : D} (h : ds[i]? = some d) : hIx (.tuple ds) (.int i) = some (.val d) ∧ hIx (.list ds) (.int i) = some (.val d) := by
  have e : atF ds i = some d := by rw [atF_eq, L2.atI_nat h]
  constructor
  · show (atF ds i).map PO.val = _
    rw [e]
    rfl
  · show (atF ds i).map PO.val = _
    rw [e]
    rfl
theorem ix_sz {L : List Bx} {r : Nat} {p : Bx} (h : L[r]? = some p) : hIx (szD L) (.int r) = some (.val (.tuple [.int p.1, .int p.2])) := (ix_of (ds := L.map bxD) (d := bxD p) (by rw [List.getElem?_map, h]; rfl)).1
theorem memI_nat (r : Nat) : ∀ l : List Nat, memI r (l.map natD) = some (decide (r ∈ l))
  | [] => rfl
  | x :: l => by
    show memI r (.int x :: l.map natD) = _
    unfold memI
    rw [memI_nat r l]
    by_cases h : x = r
    · subst h
      simp
    · have : ¬ ((x : Int) = r) := by omega
      simp [this, Ne.symm h]
theorem in_lot (r : Nat) (l : List Nat) : hIn false (.int r) (lotD l) = some (.val (.bool (decide (r ∈ l)))) := by
  show (memD (.int r) (l.map natD)).map _ = _
  unfold memD
  dsimp only
  rw [memI_nat]
  rfl
theorem whole_int (i : Int) : F__law_whole [.imm (.int i)] = .ret (.imm (.bool true)) [.imm (.int i)] := rfl
theorem whole_tup (ds : List D) : F__law_whole [.imm (.tuple ds)] = .ret (.imm (.bool false)) [.imm (.tuple ds)] := rfl
theorem isint_int (i : Int) : F_is_integer [.imm (.int i)] = .ret (.imm (.bool true)) [.imm (.int i)] := rfl
theorem isint_tup (ds : List D) : F_is_integer [.imm (.tuple ds)] = .ret (.imm (.bool false)) [.imm (.tuple ds)] := rfl
theorem eq_up (k : Bool) : hEq (.str (kS k)) (.str "up") = some (.val (.bool k)) := by cases k <;> kernel_rfl
theorem tx0 {a b c : D} : hIx (.tuple [a, b, c]) (.int 0) = some (.val a) := rfl
theorem tx1 {a b c : D} : hIx (.tuple [a, b, c]) (.int 1) = some (.val b) := rfl
theorem tx2 {a b c : D} : hIx (.tuple [a, b, c]) (.int 2) = some (.val c) := rfl
/-- the law's own box -/
theorem box_ok {L : List Bx} {sz : Nat → Bx} {l : List Nat} : ∀ (n : Nat) (t : T), t.dep ≤ n → (∀ r ∈ t.rooms, L[r]? = some (sz r)) → F__law_box n [.imm (encT t), .imm (szD L), .imm (lotD l)] = .ret (.imm (bxD (boxT sz (fun r => decide (r ∈ l)) t))) [.imm (encT t), .imm (szD L), .imm (lotD l)]
  | 0, t, h, _ => by cases t <;> cases h
  | n + 1, .leaf r, h, hr => by
    have q := ix_sz (hr r (List.mem_singleton.mpr rfl))
    have q2 := in_lot r l
    unfold boxT
    simp only [F__law_box, B__law_box, encT, mkF, s0, av1, List.length_cons, List.length_nil, List.map_cons, List.map_nil, List.replicate, List.cons_append, List.nil_append, fSeq, fSetI, fSetO, fI, fCallF, faCons, faNil, fName, g0, gs, z0, zs, R.bind, R.stm, toAVs, slotsOf, toImm, setD, fIfS, fOr, fAnd, fNot, fTr, asB, Bool.not_true, Bool.not_false, fChain, fImm, fcLink, fcLast, view, hLe, hLt, hGe, hGt, hCmp, fCall, views, hLen, oR, poR, fNx, fRet, f1, f2, outA, Option.map, if_true, fSub, fPar, setM, setC, Option.map_some, hAdd, hSub, hInt, fDrop, fAndV, fOrV, fNotV, fLst, fTup, allImm, fTgt, fRetN, fBk, fCt, fRaise0, Option.bind_some, fIf, gOne, gMany, setsD, fPar2, isSlot, Bool.false_eq_true, if_false, fApp, Option.some.injEq, Bool.or_self, Bool.or_false, Bool.false_or, mx0, mx1, mx2, mx3, whole_int, q, q2]
    by_cases hm : r ∈ l
    · rw [decide_eq_true hm]
      rfl
    · rw [decide_eq_false hm]
      rfl
  | n + 1, .node k a b, h, hr => by
    have h1 : a.dep ≤ n ∧ b.dep ≤ n := by
      unfold T.dep at h
      omega
    have ia := box_ok (L := L) (sz := sz) (l := l) n a h1.1 fun r m => hr r (List.mem_append_left _ m)
    have ib := box_ok (L := L) (sz := sz) (l := l) n b h1.2 fun r m => hr r (List.mem_append_right _ m)
    unfold boxT
    simp only [F__law_box, B__law_box, encT, mkF, s0, av1, List.length_cons, List.length_nil, List.map_cons, List.map_nil, List.replicate, List.cons_append, List.nil_append, fSeq, fSetI, fSetO, fI, fCallF, faCons, faNil, fName, g0, gs, z0, zs, R.bind, R.stm, toAVs, slotsOf, toImm, setD, fIfS, fOr, fAnd, fNot, fTr, asB, Bool.not_true, Bool.not_false, fChain, fImm, fcLink, fcLast, view, hLe, hLt, hGe, hGt, hCmp, fCall, views, hLen, oR, poR, fNx, fRet, f1, f2, outA, Option.map, if_true, fSub, fPar, setM, setC, Option.map_some, hAdd, hSub, hInt, fDrop, fAndV, fOrV, fNotV, fLst, fTup, allImm, fTgt, fRetN, fBk, fCt, fRaise0, Option.bind_some, fIf, gOne, gMany, setsD, fPar2, isSlot, Bool.false_eq_true, if_false, fApp, Option.some.injEq, Bool.or_self, Bool.or_false, Bool.false_or, mx0, mx1, mx2, mx3, whole_tup, tx0, tx1, tx2, ia, ib, eq_up]
    cases k <;> rfl
theorem with_ok {L : List Bx} {sz : Nat → Bx} {l : List Nat} : ∀ (n : Nat) (t : T), t.dep ≤ n → (∀ r ∈ t.rooms, L[r]? = some (sz r)) → F_shape_with n [.imm (encT t), .imm (szD L), .imm (lotD l)] = .ret (.imm (bxD (boxT sz (fun r => decide (r ∈ l)) t))) [.imm (encT t), .imm (szD L), .imm (lotD l)]
  | 0, t, h, _ => by cases t <;> cases h
  | n + 1, .leaf r, h, hr => by
    have q := ix_sz (hr r (List.mem_singleton.mpr rfl))
    have q2 := in_lot r l
    unfold boxT
    simp only [F_shape_with, B_shape_with, encT, mkF, s0, av1, List.length_cons, List.length_nil, List.map_cons, List.map_nil, List.replicate, List.cons_append, List.nil_append, fSeq, fSetI, fSetO, fI, fCallF, faCons, faNil, fName, g0, gs, z0, zs, R.bind, R.stm, toAVs, slotsOf, toImm, setD, fIfS, fOr, fAnd, fNot, fTr, asB, Bool.not_true, Bool.not_false, fChain, fImm, fcLink, fcLast, view, hLe, hLt, hGe, hGt, hCmp, fCall, views, hLen, oR, poR, fNx, fRet, f1, f2, outA, Option.map, if_true, fSub, fPar, setM, setC, Option.map_some, hAdd, hSub, hInt, fDrop, fAndV, fOrV, fNotV, fLst, fTup, allImm, fTgt, fRetN, fBk, fCt, fRaise0, Option.bind_some, fIf, gOne, gMany, setsD, fPar2, isSlot, Bool.false_eq_true, if_false, fApp, Option.some.injEq, Bool.or_self, Bool.or_false, Bool.false_or, mx0, mx1, mx2, mx3, isint_int, q, q2]
    by_cases hm : r ∈ l
    · rw [decide_eq_true hm]
      rfl
    · rw [decide_eq_false hm]
      rfl
  | n + 1, .node k a b, h, hr => by
    have h1 : a.dep ≤ n ∧ b.dep ≤ n := by
      unfold T.dep at h
      omega
    have ia := with_ok (L := L) (sz := sz) (l := l) n a h1.1 fun r m => hr r (List.mem_append_left _ m)
    have ib := with_ok (L := L) (sz := sz) (l := l) n b h1.2 fun r m => hr r (List.mem_append_right _ m)
    unfold boxT
    simp only [F_shape_with, B_shape_with, encT, mkF, s0, av1, List.length_cons, List.length_nil, List.map_cons, List.map_nil, List.replicate, List.cons_append, List.nil_append, fSeq, fSetI, fSetO, fI, fCallF, faCons, faNil, fName, g0, gs, z0, zs, R.bind, R.stm, toAVs, slotsOf, toImm, setD, fIfS, fOr, fAnd, fNot, fTr, asB, Bool.not_true, Bool.not_false, fChain, fImm, fcLink, fcLast, view, hLe, hLt, hGe, hGt, hCmp, fCall, views, hLen, oR, poR, fNx, fRet, f1, f2, outA, Option.map, if_true, fSub, fPar, setM, setC, Option.map_some, hAdd, hSub, hInt, fDrop, fAndV, fOrV, fNotV, fLst, fTup, allImm, fTgt, fRetN, fBk, fCt, fRaise0, Option.bind_some, fIf, gOne, gMany, setsD, fPar2, isSlot, Bool.false_eq_true, if_false, fApp, Option.some.injEq, Bool.or_self, Bool.or_false, Bool.false_or, mx0, mx1, mx2, mx3, isint_tup, tx0, tx1, tx2, ia, ib, eq_up]
    cases k <;> rfl
/-! ### trees are read -/
def T.isN (k : Bool) : T → Bool
  | .leaf _ => false
  | .node k' _ _ => k' == k
/-- the first tree of a cut never cut in its own kind -/
def T.Ok : T → Prop
  | .leaf _ => True
  | .node k a b => a.isN k = false ∧ a.Ok ∧ b.Ok
theorem in_kinds (k : Bool) : hInC true ["level", "up"] (.str (kS k)) = some (.val (.bool false)) := by cases k <;> kernel_rfl
theorem eq_kinds (k k' : Bool) : hEq (.str (kS k)) (.str (kS k')) = some (.val (.bool (k == k'))) := by cases k <;> cases k' <;> kernel_rfl
theorem isN_list (ds : List D) : hIsN (.list ds) .none = some (.val (.bool false)) := rfl
theorem n3 : hEq (.int ((0 + 1 + 1 + 1 : Nat) : Int)) (.int 3) = some (.val (.bool true)) := rfl
theorem ne3 : hNe (.int ((0 + 1 + 1 + 1 : Nat) : Int)) (.int 3) = some (.val (.bool false)) := rfl
theorem is_tup (ds : List D) : hIs .tuple (.tuple ds) = some (.val (.bool true)) := rfl
theorem is_str (x : Str) : hIs .str (.str x) = some (.val (.bool true)) := rfl
theorem is_tupI (i : Int) : hIs .tuple (.int i) = some (.val (.bool false)) := rfl
theorem read_ok : ∀ (n : Nat) (t : T), t.dep ≤ n → t.Ok → t.rooms.length ≤ 24 → (∀ r ∈ t.rooms, r < 24) → F_rooms_in n [.imm (encT t)] = .ret (.tmp (t.rooms.map natD)) [.imm (encT t)]
  | 0, t, h, _, _, _ => by cases t <;> cases h
  | n + 1, .leaf r, h, _, _, hr => by
    have q := hr r (List.mem_singleton.mpr rfl)
    have e1 : decide ((0 : Int) ≤ r) = true := decide_eq_true (by omega)
    have e2 : decide ((r : Int) < 24) = true := decide_eq_true (by omega)
    simp only [F_rooms_in, B_rooms_in, encT, mkF, s0, av1, List.length_cons, List.length_nil, List.map_cons, List.map_nil, List.replicate, List.cons_append, List.nil_append, fSeq, fSetI, fSetO, fI, fCallF, faCons, faNil, fName, g0, gs, z0, zs, R.bind, R.stm, toAVs, slotsOf, toImm, setD, fIfS, fOr, fAnd, fNot, fTr, asB, Bool.not_true, Bool.not_false, fChain, fImm, fcLink, fcLast, view, hLe, hLt, hGe, hGt, hCmp, fCall, views, hLen, oR, poR, fNx, fRet, f1, f2, outA, Option.map, if_true, fSub, fPar, setM, setC, Option.map_some, hAdd, hSub, hInt, fDrop, fAndV, fOrV, fNotV, fLst, fTup, allImm, fTgt, fRetN, fBk, fCt, fRaise0, Option.bind_some, fIf, gOne, gMany, setsD, fPar2, isSlot, Bool.false_eq_true, if_false, fApp, Option.some.injEq, Bool.or_self, Bool.or_false, Bool.false_or, mx0, mx1, mx2, mx3, isint_int, e1, e2]
    rfl
  | n + 1, .node k a b, h, ho, hl, hr => by
    have h1 : a.dep ≤ n ∧ b.dep ≤ n := by
      unfold T.dep at h
      omega
    have hl2 : a.rooms.length + b.rooms.length ≤ 24 := by
      have : (a.rooms ++ b.rooms).length ≤ 24 := hl
      rwa [List.length_append] at this
    have ia := read_ok n a h1.1 ho.2.1 (by omega) fun r m => hr r (List.mem_append_left _ m)
    have ib := read_ok n b h1.2 ho.2.2 (by omega) fun r m => hr r (List.mem_append_right _ m)
    have e1 : decide ((24 : Int) < (a.rooms.length : Int) + (b.rooms.length : Int)) = false := decide_eq_false (by omega)
    have e2 : (a.rooms.length + b.rooms.length ≤ mx) = True := eq_true (by have : mx = 16000000 := rfl; omega)
    have er : (T.node k a b).rooms.map natD = a.rooms.map natD ++ b.rooms.map natD := List.map_append ..
    rw [er]
    cases a with
    | leaf r =>
      have ia' : F_rooms_in n [.imm (.int r)] = .ret (.tmp ((T.leaf r).rooms.map natD)) [.imm (.int r)] := ia
      simp only [F_rooms_in, B_rooms_in, encT, mkF, s0, av1, List.length_cons, List.length_nil, List.map_cons, List.map_nil, List.replicate, List.cons_append, List.nil_append, fSeq, fSetI, fSetO, fI, fCallF, faCons, faNil, fName, g0, gs, z0, zs, R.bind, R.stm, toAVs, slotsOf, toImm, setD, fIfS, fOr, fAnd, fNot, fTr, asB, Bool.not_true, Bool.not_false, fChain, fImm, fcLink, fcLast, view, hLe, hLt, hGe, hGt, hCmp, fCall, views, hLen, oR, poR, fNx, fRet, f1, f2, outA, Option.map, if_true, fSub, fPar, setM, setC, Option.map_some, hAdd, hSub, hInt, fDrop, fAndV, fOrV, fNotV, fLst, fTup, allImm, fTgt, fRetN, fBk, fCt, fRaise0, Option.bind_some, fIf, gOne, gMany, setsD, fPar2, isSlot, Bool.false_eq_true, if_false, fApp, Option.some.injEq, Bool.or_self, Bool.or_false, Bool.false_or, mx0, mx1, mx2, mx3, isint_tup, tx0, tx1, tx2, is_tup, is_str, is_tupI, ne3, in_kinds, ia', ib, isN_list, List.length_map, e1, e2]
    | node k' c d =>
      have hk : (k' == k) = false := ho.1
      have ia' : F_rooms_in n [.imm (.tuple [.str (kS k'), encT c, encT d])] = .ret (.tmp ((T.node k' c d).rooms.map natD)) [.imm (.tuple [.str (kS k'), encT c, encT d])] := ia
      simp only [F_rooms_in, B_rooms_in, encT, mkF, s0, av1, List.length_cons, List.length_nil, List.map_cons, List.map_nil, List.replicate, List.cons_append, List.nil_append, fSeq, fSetI, fSetO, fI, fCallF, faCons, faNil, fName, g0, gs, z0, zs, R.bind, R.stm, toAVs, slotsOf, toImm, setD, fIfS, fOr, fAnd, fNot, fTr, asB, Bool.not_true, Bool.not_false, fChain, fImm, fcLink, fcLast, view, hLe, hLt, hGe, hGt, hCmp, fCall, views, hLen, oR, poR, fNx, fRet, f1, f2, outA, Option.map, if_true, fSub, fPar, setM, setC, Option.map_some, hAdd, hSub, hInt, fDrop, fAndV, fOrV, fNotV, fLst, fTup, allImm, fTgt, fRetN, fBk, fCt, fRaise0, Option.bind_some, fIf, gOne, gMany, setsD, fPar2, isSlot, Bool.false_eq_true, if_false, fApp, Option.some.injEq, Bool.or_self, Bool.or_false, Bool.false_or, mx0, mx1, mx2, mx3, isint_tup, tx0, tx1, tx2, is_tup, is_str, is_tupI, n3, ne3, in_kinds, eq_kinds, hk, ia', ib, isN_list, List.length_map, e1, e2]
theorem not_list (ds : List D) : hNotN (.list ds) .none = some (.val (.bool true)) := rfl
theorem sort_rng {n : Nat} (h : n ≤ 7) : hSorted [.list ((List.range n).map natD)] = some (.lst ((List.range n).map natD)) := by
  rcases n with _ | _ | _ | _ | _ | _ | _ | _ | n <;> first | omega | kernel_rfl
theorem eq_rng {n : Nat} (h : n ≤ 7) : hEq (.list ((List.range n).map natD)) (.list (rgFrom 0 n)) = some (.val (.bool true)) := by
  rcases n with _ | _ | _ | _ | _ | _ | _ | _ | n <;> first | omega | kernel_rfl
theorem lrg1_ok {f : FE} {s s1 : SD} {n : Nat} (h : f s = .ok (.imm (.int n)) s1) (hb : n ≤ mx) : fLRg1 f s = .ok (.tmp (rgFrom 0 n)) s1 := by
  have hb' : okRg 0 n = true := by
    unfold okRg bnd62
    have : mx = 16000000 := rfl
    simp only [Bool.and_eq_true, decide_eq_true_eq]
    omega
  unfold fLRg1
  rw [h, rbind_ok]
  dsimp only
  rw [if_pos hb', Int.sub_zero, Int.toNat_natCast]
/-- a valid tree of n rooms -/
structure TOk (t : T) (n : Nat) : Prop where
  ok : t.Ok
  rm : t.rooms = List.range n
  n1 : 1 ≤ n
  n7 : n ≤ 7
  dp : t.dep ≤ 12
theorem TOk.read {t : T} {n : Nat} (h : TOk t n) : F_rooms_in 12 [.imm (encT t)] = .ret (.tmp ((List.range n).map natD)) [.imm (encT t)] := by
  rw [← h.rm]
  have := h.n7
  exact read_ok 12 t h.dp h.ok (by rw [h.rm, List.length_range]; omega) fun r hr => by
    rw [h.rm, List.mem_range] at hr
    omega
theorem TOk.isTree {t : T} {n : Nat} (h : TOk t n) : F_is_tree [.imm (encT t)] = .ret (.imm (.bool true)) [.imm (encT t)] := by
  have q := h.read
  have e := sort_rng h.n7
  have e2 := eq_rng h.n7
  refine mkF_imm rfl (s := [some (.imm (encT t)), some (.imm (.list ((List.range n).map natD)))]) ?_ rfl
  refine seq_nx (s1 := [some (.imm (encT t)), some (.imm (.list ((List.range n).map natD)))]) (setI_tmp (callF_tmp (rs := [.imm (encT t)]) rfl rfl rfl q) rfl) ?_
  refine ret_imm ((andV_t (v := .imm (.bool true)) (s1 := [some (.imm (encT t)), some (.imm (.list ((List.range n).map natD)))]) rfl rfl).trans ?_)
  refine f2_val (r1 := .tmp ((List.range n).map natD)) (r2 := .tmp (rgFrom 0 n)) (d := .list ((List.range n).map natD)) (d2 := .list (rgFrom 0 n)) (call_ok (rs := [.imm (.list ((List.range n).map natD))]) rfl rfl e) (lrg1_ok ?_ ?_) rfl rfl e2
  · have hl : ((List.range n).map natD).length = n := by rw [List.length_map, List.length_range]
    refine (call_val (rs := [.imm (.list ((List.range n).map natD))]) (x := .int ((List.range n).map natD).length) rfl rfl rfl).trans ?_
    rw [hl]
  · have := h.n7
    have : mx = 16000000 := rfl
    omega
end DLP
end

set_option Elab.async false
set_option linter.all false
set_option pp.maxSteps 300
set_option maxRecDepth 100000
set_option maxHeartbeats 4000000
noncomputable section
namespace DLP
open PySem PySem.Spec PyProof.Rows DL
/-! ### shapes as data -/
def encS (x : Sh) : D := .tuple [.int x.w, .int x.h, lotD x.l]
theorem alike_lots : ∀ l m : List Nat, PySem.W.alikeAll (l.map natD) (m.map natD) = true
  | [], _ => rfl
  | _ :: _, [] => rfl
  | x :: l, y :: m => by
    show (true && PySem.W.alikeAll (l.map natD) (m.map natD)) = true
    rw [alike_lots l m]
    rfl
theorem alike_lotD (l m : List Nat) : PySem.W.alike (lotD l) (lotD m) = true := alike_lots l m
theorem alike_S (x y : Sh) : PySem.W.alike (encS x) (encS y) = true := by
  show (true && (true && (PySem.W.alike (lotD x.l) (lotD y.l) && true))) = true
  rw [alike_lotD]
  rfl
theorem depth_lots : ∀ l : List Nat, PyData.depthAll (l.map natD) = 0
  | [] => rfl
  | x :: l => by
    show max 0 (PyData.depthAll (l.map natD)) = 0
    rw [depth_lots l]
    rfl
theorem depth_lotD (l : List Nat) : PyData.depth (lotD l) = 1 := by
  show PyData.depthAll (l.map natD) + 1 = 1
  rw [depth_lots]
theorem depth_S (x : Sh) : PyData.depth (encS x) = 2 := by
  show max 0 (max 0 (max (PyData.depth (lotD x.l)) 0)) + 1 = 2
  rw [depth_lotD]
  rfl
theorem lt_S (x y : Sh) : PySem.W.dataLt (encS x) (encS y) = if x.w = y.w then (if x.h = y.h then PySem.W.dataLt (.tuple [lotD x.l]) (.tuple [lotD y.l]) else decide (x.h < y.h)) else decide (x.w < y.w) := by
  unfold encS
  rw [PySem.W.dataLt_tuple, PySem.W.dataLt_cons rfl, PySem.W.dataLt_cons rfl, PySem.W.dataLt_int, PySem.W.dataLt_int, PySem.W.dataLt_tuple]
  simp only [PyData.eqv, beq_iff_eq]
theorem leS_t (x y : Sh) (h : leD (encS x) (encS y) = true) : lx x y := by
  unfold leD at h
  rw [lt_S] at h
  unfold lx
  split at h
  · split at h
    · omega
    · simp at h
      omega
  · simp at h
    omega
theorem leS_f (x y : Sh) (h : leD (encS x) (encS y) = false) : lx y x := by
  unfold leD at h
  rw [lt_S] at h
  unfold lx
  split at h
  · split at h
    · omega
    · simp at h
      omega
  · simp at h
    omega
theorem lx_tr (x y z : Sh) (h : lx x y) (h2 : lx y z) : lx x z := by
  unfold lx at *
  omega
def srt (L : List Sh) : List Sh := sortB (fun x y => leD (encS x) (encS y)) L
theorem srt_pw (L : List Sh) : (srt L).Pairwise lx := sortB_pw leS_t leS_f lx_tr L
theorem srt_mem {L : List Sh} {x : Sh} : x ∈ srt L ↔ x ∈ L := sortB_mem
theorem okS_S {L : List Sh} (h : L.length ≤ mx) : okS (L.map encS) = true := by
  unfold okS alikeB
  rw [Bool.and_eq_true, Bool.and_eq_true, Bool.and_eq_true, decide_eq_true_eq, List.length_map]
  refine ⟨⟨⟨List.all_eq_true.mpr fun d hd => List.all_eq_true.mpr fun e he => ?_, ?_⟩, List.all_eq_true.mpr fun d hd => ?_⟩, h⟩
  · obtain ⟨x, _, rfl⟩ := List.mem_map.mp hd
    obtain ⟨y, _, rfl⟩ := List.mem_map.mp he
    exact alike_S x y
  · rw [Bool.or_eq_true]
    refine .inl (List.all_eq_true.mpr fun d hd => ?_)
    obtain ⟨x, _, rfl⟩ := List.mem_map.mp hd
    rfl
  · obtain ⟨x, _, rfl⟩ := List.mem_map.mp hd
    rw [depth_S]
    rfl
theorem sorted_S {L : List Sh} (h : L.length ≤ mx) : hSorted [.list (L.map encS)] = some (.lst ((srt L).map encS)) := by
  unfold hSorted
  dsimp only
  rw [if_pos (okS_S h), sortD_map]
  rfl
/-! ### the fewest -/
theorem ixn1 (ds : List D) (d : D) : hIx (.list (ds ++ [d])) (.int (-1)) = some (.val d) := by
  show (atF (ds ++ [d]) (Int.negSucc 0)).map PO.val = _
  rw [atF_eq, show Int.negSucc 0 = -1 from rfl, L2.atI_last]
  rfl
theorem sx0 (x : Sh) : hIx (encS x) (.int 0) = some (.val (.int x.w)) := rfl
theorem sx1 (x : Sh) : hIx (encS x) (.int 1) = some (.val (.int x.h)) := rfl
theorem sx2 (x : Sh) : hIx (encS x) (.int 2) = some (.val (lotD x.l)) := rfl
theorem neg1 : hNeg (.int 1) = some (.val (.int (-1))) := rfl
def lastH (acc : List Sh) : Option Int := acc.getLast?.map (·.h)
def bFew : FS := fIfS (fOr (fTr (f2 hEq (fCall hLen (faCons (fName 1) faNil)) (fImm (.int 0)))) (fTr (f2 hLt (f2 hIx (fName 2) (fImm (.int 1))) (f2 hIx (f2 hIx (fName 1) (f1 hNeg (fImm (.int 1)))) (fImm (.int 1)))))) (fApp 1 (fName 2)) fNx
theorem few_none {A : Option DV} {x : Sh} : bFew [A, some (.own []), some (.imm (encS x))] = .nx [A, some (.own [encS x]), some (.imm (encS x))] := rfl
theorem few_some {A : Option DV} {x y : Sh} {acc : List Sh} (h : (acc ++ [y]).length < mx) : bFew [A, some (.own ((acc ++ [y]).map encS)), some (.imm (encS x))] = .nx [A, some (.own ((acc ++ [y] ++ (if x.h < y.h then [x] else [])).map encS)), some (.imm (encS x))] := by
  have hq : hIx (.list ((acc ++ [y]).map encS)) (.int (-1)) = some (.val (encS y)) := by
    rw [List.map_append]
    exact ixn1 _ _
  have e0 : (((acc ++ [y]).length : Int) == 0) = false := by
    rw [beq_eq_false_iff_ne, List.length_append, List.length_singleton]
    omega
  have e1 : ((acc ++ [y]).length < mx) = True := eq_true h
  by_cases hc : x.h < y.h
  · have e2 : decide (x.h < y.h) = true := decide_eq_true hc
    rw [if_pos hc]
    simp only [bFew, mkF, s0, av1, List.length_cons, List.length_nil, List.map_cons, List.map_nil, List.replicate, List.cons_append, List.nil_append, fSeq, fSetI, fSetO, fI, fCallF, faCons, faNil, fName, g0, gs, z0, zs, R.bind, R.stm, toAVs, slotsOf, toImm, setD, fIfS, fOr, fAnd, fNot, fTr, asB, Bool.not_true, Bool.not_false, fChain, fImm, fcLink, fcLast, view, hLe, hLt, hGe, hGt, hCmp, fCall, views, hLen, oR, poR, fNx, fRet, f1, f2, outA, Option.map, if_true, fSub, fPar, setM, setC, Option.map_some, hAdd, hSub, hInt, fDrop, fAndV, fOrV, fNotV, fLst, fTup, allImm, fTgt, fRetN, fBk, fCt, fRaise0, Option.bind_some, fIf, gOne, gMany, setsD, fPar2, isSlot, Bool.false_eq_true, if_false, fApp, Option.some.injEq, Bool.or_self, Bool.or_false, Bool.false_or, mx0, mx1, mx2, mx3, hEq_int, List.length_map, e0, sx1, neg1, hq, e2, e1]
    rw [List.map_append (l₂ := [x])]
    rfl
  · have e2 : decide (x.h < y.h) = false := decide_eq_false hc
    rw [if_neg hc, List.append_nil]
    simp only [bFew, mkF, s0, av1, List.length_cons, List.length_nil, List.map_cons, List.map_nil, List.replicate, List.cons_append, List.nil_append, fSeq, fSetI, fSetO, fI, fCallF, faCons, faNil, fName, g0, gs, z0, zs, R.bind, R.stm, toAVs, slotsOf, toImm, setD, fIfS, fOr, fAnd, fNot, fTr, asB, Bool.not_true, Bool.not_false, fChain, fImm, fcLink, fcLast, view, hLe, hLt, hGe, hGt, hCmp, fCall, views, hLen, oR, poR, fNx, fRet, f1, f2, outA, Option.map, if_true, fSub, fPar, setM, setC, Option.map_some, hAdd, hSub, hInt, fDrop, fAndV, fOrV, fNotV, fLst, fTup, allImm, fTgt, fRetN, fBk, fCt, fRaise0, Option.bind_some, fIf, gOne, gMany, setsD, fPar2, isSlot, Bool.false_eq_true, if_false, fApp, Option.some.injEq, Bool.or_self, Bool.or_false, Bool.false_or, mx0, mx1, mx2, mx3, hEq_int, List.length_map, e0, sx1, neg1, hq, e2, e1]
theorem lastH_app (acc : List Sh) (x : Sh) : lastH (acc ++ [x]) = some x.h := by
  unfold lastH
  rw [List.getLast?_append, List.getLast?_singleton]
  rfl
theorem few_loop {A : Option DV} : ∀ (ds acc : List Sh) (c : Option DV), (c = none ∨ ∃ d, c = some (.imm d)) → acc.length + ds.length ≤ mx → ∃ c', loopF (gOne 2) bFew (ds.map encS) [A, some (.own (acc.map encS)), c] = .nx [A, some (.own ((acc ++ fewGo (lastH acc) ds).map encS)), c']
  | [], acc, c, hc, hl => ⟨c, by
    have : fewGo (lastH acc) [] = [] := by cases lastH acc <;> rfl
    rw [this, List.append_nil]
    rfl⟩
  | x :: ds, acc, c, hc, hl => by
    have hg : gOne 2 (encS x) [A, some (.own (acc.map encS)), c] = some [A, some (.own (acc.map encS)), some (.imm (encS x))] := by
      rcases hc with rfl | ⟨d, rfl⟩ <;> rfl
    rw [List.length_cons] at hl
    rw [List.map_cons]
    unfold loopF
    rw [hg]
    dsimp only
    rcases List.eq_nil_or_concat acc with rfl | ⟨acc, y, rfl⟩
    · obtain ⟨c', h⟩ := few_loop (A := A) ds [x] (some (.imm (encS x))) (.inr ⟨_, rfl⟩) (by simp at hl ⊢; omega)
      refine ⟨c', ?_⟩
      rw [show ([] : List Sh).map encS = [] from rfl, few_none]
      exact h
    · rw [List.concat_eq_append] at *
      rw [few_some (by omega), lastH_app]
      dsimp only
      unfold fewGo
      by_cases hc : x.h < y.h
      · rw [if_pos hc, if_pos hc]
        obtain ⟨c', h⟩ := few_loop (A := A) ds (acc ++ [y] ++ [x]) (some (.imm (encS x))) (.inr ⟨_, rfl⟩) (by rw [List.length_append, List.length_singleton]; omega)
        rw [lastH_app, show acc ++ [y] ++ [x] ++ fewGo (some x.h) ds = acc ++ [y] ++ x :: fewGo (some x.h) ds by rw [List.append_assoc (acc ++ [y]), List.singleton_append]] at h
        exact ⟨c', h⟩
      · rw [if_neg hc, if_neg hc, List.append_nil]
        obtain ⟨c', h⟩ := few_loop (A := A) ds (acc ++ [y]) (some (.imm (encS x))) (.inr ⟨_, rfl⟩) (by omega)
        rw [lastH_app] at h
        exact ⟨c', h⟩
theorem fewest_ok {L : List Sh} (h : L.length ≤ mx) : F_fewest [.imm (.list (L.map encS))] = .ret (.tmp ((fewGo none (srt L)).map encS)) [.imm (.list (L.map encS))] := by
  have hl : (srt L).length = L.length := sortB_len L
  obtain ⟨c', q⟩ := few_loop (A := some (.imm (.list (L.map encS)))) (srt L) [] none (.inl rfl) (by rw [hl, List.length_nil]; omega)
  refine mkF_tmp rfl (s := [some (.imm (.list (L.map encS))), none, c']) ?_ rfl
  refine seq_nx (s1 := [some (.imm (.list (L.map encS))), some (.own []), none]) rfl ?_
  refine seq_nx (for_is (s1 := [some (.imm (.list (L.map encS))), some (.own []), none]) (it_list (fI_tmp (call_ok (rs := [.imm (.list (L.map encS))]) rfl rfl (sorted_S h)))) q) ?_
  rfl
/-! ### put together -/
theorem add_int (i j : Int) : hAdd (.int i) (.int j) = some (.val (.int (i + j))) := rfl
theorem add_lot {l m : List Nat} (h : l.length + m.length ≤ mx) : hAdd (lotD l) (lotD m) = some (.val (lotD (l ++ m))) ∨ ∃ ds, hAdd (lotD l) (lotD m) = some (.tup ds) ∧ .tuple ds = lotD (l ++ m) := by
  have e : hAdd (lotD l) (lotD m) = match l.map natD, m.map natD with
    | [], ys => some (.val (.tuple ys))
    | x :: xs, [] => some (.val (.tuple (x :: xs)))
    | x :: xs, y :: ys => some (.tup (x :: xs ++ y :: ys)) := by
    show (if (l.map natD).length + (m.map natD).length ≤ mx then _ else _) = _
    rw [if_pos (by rw [List.length_map, List.length_map]; exact h)]
    rfl
  rw [e]
  cases l with
  | nil => exact .inl rfl
  | cons x l =>
    cases m with
    | nil => exact .inl (by rw [List.append_nil]; rfl)
    | cons y m =>
      refine .inr ⟨_, rfl, ?_⟩
      unfold lotD
      rw [List.map_append]
      rfl
theorem put_ok (k : Bool) {x y : Sh} (h : x.l.length + y.l.length ≤ mx) : F_put_together [.imm (.str (kS k)), .imm (encS x), .imm (encS y)] = .ret (.imm (encS (put k x y))) [.imm (.str (kS k)), .imm (encS x), .imm (encS y)] := by
  have hx : ∀ i j : Int, hMax [.int i, .int j] = some (.val (.int (mxI i j))) := fun i j => rfl
  have e3 := eq_up k
  rcases add_lot h with e1 | ⟨ds, e1, e2⟩
  · cases k
    · simp only [F_put_together, B_put_together, mkF, s0, av1, List.length_cons, List.length_nil, List.map_cons, List.map_nil, List.replicate, List.cons_append, List.nil_append, fSeq, fSetI, fSetO, fI, fCallF, faCons, faNil, fName, g0, gs, z0, zs, R.bind, R.stm, toAVs, slotsOf, toImm, setD, fIfS, fOr, fAnd, fNot, fTr, asB, Bool.not_true, Bool.not_false, fChain, fImm, fcLink, fcLast, view, hLe, hLt, hGe, hGt, hCmp, fCall, views, hLen, oR, poR, fNx, fRet, f1, f2, outA, Option.map, if_true, fSub, fPar, setM, setC, Option.map_some, add_int, hSub, hInt, fDrop, fAndV, fOrV, fNotV, fLst, fTup, allImm, fTgt, fRetN, fBk, fCt, fRaise0, Option.bind_some, fIf, gOne, gMany, setsD, fPar2, isSlot, Bool.false_eq_true, if_false, fApp, Option.some.injEq, Bool.or_self, Bool.or_false, Bool.false_or, mx0, mx1, mx2, mx3, e3, sx0, sx1, sx2, e1, hx]
      rfl
    · simp only [F_put_together, B_put_together, mkF, s0, av1, List.length_cons, List.length_nil, List.map_cons, List.map_nil, List.replicate, List.cons_append, List.nil_append, fSeq, fSetI, fSetO, fI, fCallF, faCons, faNil, fName, g0, gs, z0, zs, R.bind, R.stm, toAVs, slotsOf, toImm, setD, fIfS, fOr, fAnd, fNot, fTr, asB, Bool.not_true, Bool.not_false, fChain, fImm, fcLink, fcLast, view, hLe, hLt, hGe, hGt, hCmp, fCall, views, hLen, oR, poR, fNx, fRet, f1, f2, outA, Option.map, if_true, fSub, fPar, setM, setC, Option.map_some, add_int, hSub, hInt, fDrop, fAndV, fOrV, fNotV, fLst, fTup, allImm, fTgt, fRetN, fBk, fCt, fRaise0, Option.bind_some, fIf, gOne, gMany, setsD, fPar2, isSlot, Bool.false_eq_true, if_false, fApp, Option.some.injEq, Bool.or_self, Bool.or_false, Bool.false_or, mx0, mx1, mx2, mx3, e3, sx0, sx1, sx2, e1, hx]
      rfl
  · have e4 : encS (put k x y) = .tuple [.int (comb k x.bx y.bx).1, .int (comb k x.bx y.bx).2, .tuple ds] := by
      rw [e2]
      rfl
    rw [e4]
    cases k
    · simp only [F_put_together, B_put_together, mkF, s0, av1, List.length_cons, List.length_nil, List.map_cons, List.map_nil, List.replicate, List.cons_append, List.nil_append, fSeq, fSetI, fSetO, fI, fCallF, faCons, faNil, fName, g0, gs, z0, zs, R.bind, R.stm, toAVs, slotsOf, toImm, setD, fIfS, fOr, fAnd, fNot, fTr, asB, Bool.not_true, Bool.not_false, fChain, fImm, fcLink, fcLast, view, hLe, hLt, hGe, hGt, hCmp, fCall, views, hLen, oR, poR, fNx, fRet, f1, f2, outA, Option.map, if_true, fSub, fPar, setM, setC, Option.map_some, add_int, hSub, hInt, fDrop, fAndV, fOrV, fNotV, fLst, fTup, allImm, fTgt, fRetN, fBk, fCt, fRaise0, Option.bind_some, fIf, gOne, gMany, setsD, fPar2, isSlot, Bool.false_eq_true, if_false, fApp, Option.some.injEq, Bool.or_self, Bool.or_false, Bool.false_or, mx0, mx1, mx2, mx3, e3, sx0, sx1, sx2, e1, hx]
      rfl
    · simp only [F_put_together, B_put_together, mkF, s0, av1, List.length_cons, List.length_nil, List.map_cons, List.map_nil, List.replicate, List.cons_append, List.nil_append, fSeq, fSetI, fSetO, fI, fCallF, faCons, faNil, fName, g0, gs, z0, zs, R.bind, R.stm, toAVs, slotsOf, toImm, setD, fIfS, fOr, fAnd, fNot, fTr, asB, Bool.not_true, Bool.not_false, fChain, fImm, fcLink, fcLast, view, hLe, hLt, hGe, hGt, hCmp, fCall, views, hLen, oR, poR, fNx, fRet, f1, f2, outA, Option.map, if_true, fSub, fPar, setM, setC, Option.map_some, add_int, hSub, hInt, fDrop, fAndV, fOrV, fNotV, fLst, fTup, allImm, fTgt, fRetN, fBk, fCt, fRaise0, Option.bind_some, fIf, gOne, gMany, setsD, fPar2, isSlot, Bool.false_eq_true, if_false, fApp, Option.some.injEq, Bool.or_self, Bool.or_false, Bool.false_or, mx0, mx1, mx2, mx3, e3, sx0, sx1, sx2, e1, hx]
      rfl
/-! ### comprehensions of two clauses -/
theorem loopC_mapE {α : Type} {gg : D → SD → Option SD} {cond : FT} {elt : FE} {vs : List Nat} {s : SD} (enc f : α → D) : ∀ (xs : List α) (acc : List D), (∀ x ∈ xs, ∃ s1 s2 s3, gg (enc x) s = some s1 ∧ cond s1 = .ok true s2 ∧ elt s2 = .ok (.imm (f x)) s3 ∧ wipeD s3 vs = s) → acc.length + xs.length ≤ mx → loopC gg cond elt vs (xs.map enc) s acc = .ok (acc ++ xs.map f) s
  | [], acc, _, _ => by
    simp only [List.map_nil, List.append_nil]
    rfl
  | x :: xs, acc, h, hl => by
    obtain ⟨s1, s2, s3, h1, h2, h3, h4⟩ := h x (List.mem_cons_self ..)
    rw [List.length_cons] at hl
    rw [List.map_cons, loopC_cons, h1]
    dsimp only
    rw [h2]
    dsimp only
    rw [h3]
    dsimp only
    rw [if_pos (by omega), h4, loopC_mapE enc f xs _ (fun d' m => h d' (List.mem_cons_of_mem _ m)) (by rw [List.length_append, List.length_singleton]; omega), List.append_assoc]
    rfl
theorem loopC2_mapE {α : Type} {g g1 : D → SD → Option SD} {cond cond1 : FT} {it1 : FI} {elt : FE} {vs vs1 : List Nat} {s : SD} (enc : α → D) (f : α → List D) : ∀ (xs : List α) (acc : List D), (∀ x ∈ xs, ∃ s1 s2 s3 es, g (enc x) s = some s1 ∧ cond s1 = .ok true s2 ∧ it1 s2 = .ok es s3 ∧ wipeD (wipeD s3 vs1) vs = s ∧ ∀ acc, acc.length + (f x).length ≤ mx → loopC g1 cond1 elt vs1 es (wipeD s3 vs1) acc = .ok (acc ++ f x) (wipeD s3 vs1)) → acc.length + (xs.flatMap f).length ≤ mx → loopC2 g cond it1 g1 cond1 elt vs vs1 (xs.map enc) s acc = .ok (acc ++ xs.flatMap f) s
  | [], acc, _, _ => by
    rw [List.flatMap_nil, List.append_nil]
    rfl
  | x :: xs, acc, h, hl => by
    obtain ⟨s1, s2, s3, es, h1, h2, h3, h4, h5⟩ := h x (List.mem_cons_self ..)
    rw [List.flatMap_cons, List.length_append] at hl
    rw [List.map_cons]
    unfold loopC2
    rw [h1]
    dsimp only
    rw [h2]
    dsimp only
    rw [h3]
    dsimp only
    rw [h5 acc (by omega)]
    dsimp only
    rw [h4, loopC2_mapE enc f xs _ (fun d' m => h d' (List.mem_cons_of_mem _ m)) (by rw [List.length_append]; omega), List.flatMap_cons, List.append_assoc]
theorem lc2_ok {it it1 : FI} {g g1 : D → SD → Option SD} {cond cond1 : FT} {elt : FE} {vs vs1 : List Nat} {s s1 s2 s3 : SD} {ds out : List D} (h : it s = .ok ds s1) (hp : vs.all (plainAt s1) = true) (hl : loopC2 g cond it1 g1 cond1 elt vs vs1 ds (wipeD s1 vs) [] = .ok out s2) (hb : backD s1 s2 vs = s3) : fLc2 it vs g cond it1 vs1 g1 cond1 elt s = .ok (.tmp out) s3 := by
  unfold fLc2
  rw [h, rbind_ok]
  rw [if_pos hp, hl, ← hb]
/-! ### the shapes of a tree -/
theorem few_len : ∀ (L : List Sh) (o : Option Int), (fewGo o L).length ≤ L.length
  | [], o => by cases o <;> exact Nat.le_refl _
  | x :: L, none => Nat.succ_le_succ (few_len L _)
  | x :: L, some o => by
    unfold fewGo
    split
    · exact Nat.succ_le_succ (few_len L _)
    · exact Nat.le_succ_of_le (few_len L _)
theorem puts_len (k : Bool) (B : List Sh) : ∀ A : List Sh, (puts k A B).length = A.length * B.length
  | [] => by
    rw [List.length_nil, Nat.zero_mul]
    rfl
  | x :: A => by
    have ih := puts_len k B A
    unfold puts at ih ⊢
    rw [List.flatMap_cons, List.length_append, List.length_map, ih, List.length_cons, Nat.succ_mul, Nat.add_comm]
theorem puts_map (k : Bool) (A B : List Sh) (f : Sh → D) : (puts k A B).map f = A.flatMap fun x => B.map fun y => f (put k x y) := by
  unfold puts
  rw [List.map_flatMap]
  simp only [List.map_map]
  rfl
theorem nd_len {l m : List Nat} (h : l.Nodup) (h2 : ∀ r ∈ l, r ∈ m) : l.length ≤ m.length := by
  induction l generalizing m with
  | nil => exact Nat.zero_le _
  | cons x l ih =>
    obtain ⟨h3, h4⟩ := List.nodup_cons.mp h
    have hx := h2 x (List.mem_cons_self ..)
    have := ih (m := m.erase x) h4 fun r hr => (List.mem_erase_of_ne (fun e => h3 (by rw [← e]; exact hr))).mpr (h2 r (List.mem_cons_of_mem _ hr))
    rw [List.length_erase_of_mem hx] at this
    have : 0 < m.length := List.length_pos_of_mem hx
    rw [List.length_cons]
    omega
theorem of_leaf {L : List Bx} {sz : Nat → Bx} {r : Nat} (n : Nat) (hr : L[r]? = some (sz r)) : F_shapes_of (n + 1) [.imm (.int r), .imm (szD L)] = .ret (.tmp ((fewGo none (srt [⟨(sz r).1, (sz r).2, []⟩, ⟨(sz r).2, (sz r).1, [r]⟩])).map encS)) [.imm (.int r), .imm (szD L)] := by
  have q := ix_sz hr
  have q2 := fewest_ok (L := [⟨(sz r).1, (sz r).2, []⟩, ⟨(sz r).2, (sz r).1, [r]⟩]) (by show 2 ≤ mx; decide)
  have q3 : F_fewest [.imm (.list [.tuple [.int (sz r).1, .int (sz r).2, .tuple []], .tuple [.int (sz r).2, .int (sz r).1, .tuple [.int r]]])] = .ret (.tmp ((fewGo none (srt [⟨(sz r).1, (sz r).2, []⟩, ⟨(sz r).2, (sz r).1, [r]⟩])).map encS)) [.imm (.list [.tuple [.int (sz r).1, .int (sz r).2, .tuple []], .tuple [.int (sz r).2, .int (sz r).1, .tuple [.int r]]])] := q2
  simp only [F_shapes_of, B_shapes_of, mkF, s0, av1, List.length_cons, List.length_nil, List.map_cons, List.map_nil, List.replicate, List.cons_append, List.nil_append, fSeq, fSetI, fSetO, fI, fCallF, faCons, faNil, fName, g0, gs, z0, zs, R.bind, R.stm, toAVs, slotsOf, toImm, setD, fIfS, fOr, fAnd, fNot, fTr, asB, Bool.not_true, Bool.not_false, fChain, fImm, fcLink, fcLast, view, hLe, hLt, hGe, hGt, hCmp, fCall, views, hLen, oR, poR, fNx, fRet, f1, f2, outA, Option.map, if_true, fSub, fPar, setM, setC, Option.map_some, hAdd, hSub, hInt, fDrop, fAndV, fOrV, fNotV, fLst, fTup, allImm, fTgt, fRetN, fBk, fCt, fRaise0, Option.bind_some, fIf, gOne, gMany, setsD, fPar2, isSlot, Bool.false_eq_true, if_false, fApp, Option.some.injEq, Bool.or_self, Bool.or_false, Bool.false_or, mx0, mx1, mx2, mx3, isint_int, q, q3]
theorem of_node {L : List Bx} {k : Bool} {a b : T} {A B : List Sh} (n : Nat) (ha : F_shapes_of n [.imm (encT a), .imm (szD L)] = .ret (.tmp (A.map encS)) [.imm (encT a), .imm (szD L)]) (hb : F_shapes_of n [.imm (encT b), .imm (szD L)] = .ret (.tmp (B.map encS)) [.imm (encT b), .imm (szD L)])
    (hl : A.length * B.length ≤ mx) (hm : ∀ x ∈ A, ∀ y ∈ B, x.l.length + y.l.length ≤ mx) : F_shapes_of (n + 1) [.imm (encT (.node k a b)), .imm (szD L)] = .ret (.tmp ((fewGo none (srt (puts k A B))).map encS)) [.imm (encT (.node k a b)), .imm (szD L)] := by
  have q2 := fewest_ok (L := puts k A B) (by rw [puts_len]; exact hl)
  rw [puts_map] at q2
  have hP : ((puts k A B).map encS).length ≤ mx := by rw [List.length_map, puts_len]; exact hl
  rw [puts_map] at hP
  let sx : Option DV → Option DV → SD := fun u v => [some (.imm (encT (.node k a b))), some (.imm (szD L)), u, v, some (.imm (.str (kS k))), some (.imm (encT a)), some (.imm (.list (B.map encS))), none, none, some (.imm (encT b))]
  have q := loopC2_mapE (g := gOne 2) (g1 := gOne 3) (cond := fYes) (cond1 := fYes) (it1 := fIt (fName 6)) (elt := fI (fCallF F_put_together (faCons (fName 4) (faCons (fName 2) (faCons (fName 3) faNil))))) (vs := [2, 3]) (vs1 := [3]) (s := sx none none) encS (fun x => B.map fun y => encS (put k x y)) A [] (fun x hx => by
    refine ⟨sx (some (.imm (encS x))) none, sx (some (.imm (encS x))) none, sx (some (.imm (encS x))) none, B.map encS, rfl, rfl, rfl, rfl, fun acc hacc => ?_⟩
    rw [List.length_map] at hacc
    exact loopC_mapE (gg := gOne 3) (cond := fYes) (vs := [3]) (s := sx (some (.imm (encS x))) none) encS (fun y => encS (put k x y)) B acc (fun y hy => ⟨sx (some (.imm (encS x))) (some (.imm (encS y))), sx (some (.imm (encS x))) (some (.imm (encS y))), sx (some (.imm (encS x))) (some (.imm (encS y))), rfl, rfl, fI_imm (callF_imm (rs := [.imm (.str (kS k)), .imm (encS x), .imm (encS y)]) rfl rfl rfl (put_ok k (hm x hx y hy))), rfl⟩) hacc) (by
    rw [List.length_nil, Nat.zero_add]
    exact hP)
  rw [List.nil_append] at q
  have l2 : fLc2 (fIt (fI (fCallF (F_shapes_of n) (faCons (fName 5) (faCons (fName 1) faNil))))) [2, 3] (gOne 2) fYes (fIt (fName 6)) [3] (gOne 3) fYes (fI (fCallF F_put_together (faCons (fName 4) (faCons (fName 2) (faCons (fName 3) faNil))))) (sx none none) = .ok (.tmp (A.flatMap fun x => B.map fun y => encS (put k x y))) (sx none none) :=
    lc2_ok (s1 := sx none none) (s2 := sx none none) (it_list (fI_tmp (callF_tmp (rs := [.imm (encT a), .imm (szD L)]) rfl rfl rfl ha))) rfl q rfl
  refine mkF_tmp rfl (s := sx none none) ?_ rfl
  refine seq_nx (s1 := [some (.imm (encT (.node k a b))), some (.imm (szD L)), none, none, none, none, none, none, none, none]) (ifS_f (s1 := [some (.imm (encT (.node k a b))), some (.imm (szD L)), none, none, none, none, none, none, none, none]) rfl rfl) ?_
  refine seq_nx (s1 := [some (.imm (encT (.node k a b))), some (.imm (szD L)), none, none, some (.imm (.str (kS k))), some (.imm (encT a)), none, none, none, some (.imm (encT b))]) rfl ?_
  refine seq_nx (s1 := sx none none) (setI_tmp (callF_tmp (rs := [.imm (encT b), .imm (szD L)]) rfl rfl rfl hb) rfl) ?_
  exact ret_tmp (callF_tmp (rs := [.imm (.list (A.flatMap fun x => B.map fun y => encS (put k x y)))]) (cons_ok (fI_tmp l2) rfl) rfl rfl q2)
/-- the shapes of a tree: its front -/
theorem of_ok {L : List Bx} {sz : Nat → Bx} : ∀ (n : Nat) (t : T), t.dep ≤ n → t.rooms.Nodup → t.rooms.length ≤ 7 → (∀ r ∈ t.rooms, L[r]? = some (sz r)) → ∃ S, Good sz t S ∧ S.length ≤ 2 ^ t.rooms.length ∧ F_shapes_of n [.imm (encT t), .imm (szD L)] = .ret (.tmp (S.map encS)) [.imm (encT t), .imm (szD L)]
  | 0, t, h, _, _, _ => by cases t <;> cases h
  | n + 1, .leaf r, h, _, _, hr => ⟨_, good_leaf (fun x => srt_mem) (srt_pw _), by
      refine Nat.le_trans (few_len _ _) ?_
      unfold srt
      rw [sortB_len]
      exact Nat.le_refl 2, of_leaf n (hr r (List.mem_singleton.mpr rfl))⟩
  | n + 1, .node k a b, h, hn, hl, hr => by
    have h1 : a.dep ≤ n ∧ b.dep ≤ n := by
      unfold T.dep at h
      omega
    have hd := List.nodup_append.mp hn
    have hl' : a.rooms.length + b.rooms.length ≤ 7 := by
      have : (a.rooms ++ b.rooms).length ≤ 7 := hl
      rwa [List.length_append] at this
    obtain ⟨A, ga, la, fa⟩ := of_ok (L := L) (sz := sz) n a h1.1 hd.1 (by omega) fun r m => hr r (List.mem_append_left _ m)
    obtain ⟨B, gb, lb, fb⟩ := of_ok (L := L) (sz := sz) n b h1.2 hd.2.1 (by omega) fun r m => hr r (List.mem_append_right _ m)
    have hp : A.length * B.length ≤ 2 ^ (a.rooms.length + b.rooms.length) := by
      rw [Nat.pow_add]
      exact Nat.mul_le_mul la lb
    have h7 : 2 ^ (a.rooms.length + b.rooms.length) ≤ 2 ^ 7 := Nat.pow_le_pow_right (by decide) hl'
    refine ⟨_, good_node ga gb hn (fun x => srt_mem) (srt_pw _), ?_, of_node n fa fb ?_ ?_⟩
    · refine Nat.le_trans (few_len _ _) ?_
      unfold srt
      rw [sortB_len, puts_len, show (T.node k a b).rooms.length = a.rooms.length + b.rooms.length from List.length_append]
      exact hp
    · have : mx = 16000000 := rfl
      have : (2 : Nat) ^ 7 = 128 := rfl
      omega
    · intro x hx y hy
      have e1 := nd_len (ga.nd x hx) (ga.rm x hx)
      have e2 := nd_len (gb.nd y hy) (gb.rm y hy)
      have : mx = 16000000 := rfl
      omega
end DLP
end

set_option Elab.async false
set_option linter.all false
set_option pp.maxSteps 300
set_option maxRecDepth 100000
set_option maxHeartbeats 4000000
noncomputable section
namespace DLP
open PySem PySem.Spec PyProof.Rows DL
/-! ### sizes are judged -/
theorem mkF_exc {m n : Nat} {body : FS} {as as' : List AV} {s : SD} {x : DExc} (hl : as.length = m) (h : body (s0 as n) = .ex x s) (ho : outA as s = some as') : mkF m n body as = .exc x as' := by
  unfold mkF
  rw [if_pos hl, h]
  dsimp only
  rw [ho]
theorem for_all {gg : D → SD → Option SD} {body : FS} {α : Type} (enc : α → D) (I : SD → Prop) : ∀ (xs : List α) (s : SD), I s → (∀ x ∈ xs, ∀ s, I s → ∃ s1 s2, gg (enc x) s = some s1 ∧ body s1 = .nx s2 ∧ I s2) → ∃ s', loopF gg body (xs.map enc) s = .nx s' ∧ I s'
  | [], s, h, _ => ⟨s, rfl, h⟩
  | x :: xs, s, h, hs => by
    obtain ⟨s1, s2, h1, h2, h3⟩ := hs x (List.mem_cons_self ..) s h
    obtain ⟨s', h4, h5⟩ := for_all enc I xs s2 h3 fun y m => hs y (List.mem_cons_of_mem _ m)
    refine ⟨s', ?_, h5⟩
    rw [List.map_cons]
    unfold loopF
    rw [h1]
    dsimp only
    rw [h2]
    exact h4
theorem for_stop {gg : D → SD → Option SD} {body : FS} {d : D} {ds : List D} {s s1 s2 : SD} {v : RV} (h1 : gg d s = some s1) (h2 : body s1 = .rt v s2) : loopF gg body (d :: ds) s = .rt v s2 := by
  unfold loopF
  rw [h1]
  dsimp only
  rw [h2]
theorem for_pre {gg : D → SD → Option SD} {body : FS} {α : Type} (enc : α → D) (I : SD → Prop) (J : SD → Prop) {v : RV} {d : D} {ds : List D} : ∀ (xs : List α) (s : SD), I s → (∀ x ∈ xs, ∀ s, I s → ∃ s1 s2, gg (enc x) s = some s1 ∧ body s1 = .nx s2 ∧ I s2) → (∀ s, I s → ∃ s1 s2, gg d s = some s1 ∧ body s1 = .rt v s2 ∧ J s2) → ∃ s', loopF gg body (xs.map enc ++ d :: ds) s = .rt v s' ∧ J s'
  | [], s, h, _, hd => by
    obtain ⟨s1, s2, h1, h2, h3⟩ := hd s h
    exact ⟨s2, for_stop h1 h2, h3⟩
  | x :: xs, s, h, hs, hd => by
    obtain ⟨s1, s2, h1, h2, h3⟩ := hs x (List.mem_cons_self ..) s h
    obtain ⟨s', h4, h5⟩ := for_pre enc I J (ds := ds) xs s2 h3 (fun y m => hs y (List.mem_cons_of_mem _ m)) hd
    refine ⟨s', ?_, h5⟩
    rw [List.map_cons, List.cons_append]
    unfold loopF
    rw [h1]
    dsimp only
    rw [h2]
    exact h4
def bBox : FS := (fSeq (fIfS (fOr (fNot (fTr (f1 (hIs .tuple) (fName 3)))) (fTr (f2 hNe (fCall hLen (faCons (fName 3) faNil)) (fImm (.int 2))))) (fRet (fImm (.bool false))) fNx) (fIfS (fNot (fTr (fCall hAll (faCons (fLc (fIt (fName 3)) [2] (gOne 2) fYes (fAndV (fCallF F_is_integer (faCons (fName 2) faNil)) (fChain (fImm (.int 1)) (fcLink hLe (fName 2) (fcLast hLe (fImm (.int 1000000000))))))) faNil)))) (fRet (fImm (.bool false))) fNx))
def okB (p : Bx) : Prop := (1 ≤ p.1 ∧ p.1 ≤ 1000000000) ∧ 1 ≤ p.2 ∧ p.2 ≤ 1000000000
theorem box_all {A B : Option DV} {p : Bx} (h : okB p) : fCall hAll (faCons (fLc (fIt (fName 3)) [2] (gOne 2) fYes (fAndV (fCallF F_is_integer (faCons (fName 2) faNil)) (fChain (fImm (.int 1)) (fcLink hLe (fName 2) (fcLast hLe (fImm (.int 1000000000))))))) faNil) [A, B, none, some (.imm (bxD p))] = .ok (.imm (.bool true)) [A, B, none, some (.imm (bxD p))] := by
  have q := loopC_mapE (gg := gOne 2) (cond := fYes) (elt := (fAndV (fCallF F_is_integer (faCons (fName 2) faNil)) (fChain (fImm (.int 1)) (fcLink hLe (fName 2) (fcLast hLe (fImm (.int 1000000000))))))) (vs := [2]) (s := [A, B, none, some (.imm (bxD p))]) (fun i : Int => .int i) (fun _ => .bool true) [p.1, p.2] [] (fun i m => by
    have hi : 1 ≤ i ∧ i ≤ 1000000000 := by
      rcases List.mem_cons.mp m with rfl | m
      · exact h.1
      · rcases List.mem_cons.mp m with rfl | m
        · exact h.2
        · cases m
    have e1 : decide ((1 : Int) ≤ i) = true := decide_eq_true hi.1
    have e2 : decide (i ≤ 1000000000) = true := decide_eq_true hi.2
    refine ⟨[A, B, some (.imm (.int i)), some (.imm (bxD p))], [A, B, some (.imm (.int i)), some (.imm (bxD p))], [A, B, some (.imm (.int i)), some (.imm (bxD p))], rfl, rfl, ?_, rfl⟩
    simp only [mkF, s0, av1, List.length_cons, List.length_nil, List.map_cons, List.map_nil, List.replicate, List.cons_append, List.nil_append, fSeq, fSetI, fSetO, fI, fCallF, faCons, faNil, fName, g0, gs, z0, zs, R.bind, R.stm, toAVs, slotsOf, toImm, setD, fIfS, fOr, fAnd, fNot, fTr, asB, Bool.not_true, Bool.not_false, fChain, fImm, fcLink, fcLast, view, hLe, hLt, hGe, hGt, hCmp, fCall, views, hLen, oR, poR, fNx, fRet, f1, f2, outA, Option.map, if_true, fSub, fPar, setM, setC, Option.map_some, hAdd, hSub, hInt, fDrop, fAndV, fOrV, fNotV, fLst, fTup, allImm, fTgt, fRetN, fBk, fCt, fRaise0, Option.bind_some, fIf, gOne, gMany, setsD, fPar2, isSlot, Bool.false_eq_true, if_false, fApp, Option.some.injEq, Bool.or_self, Bool.or_false, Bool.false_or, mx0, mx1, mx2, mx3, isint_int, e1, e2]) (by show 2 ≤ mx; decide)
  exact call_val (cons_ok (lc_ok (ds := [.int p.1, .int p.2]) (s1 := [A, B, none, some (.imm (bxD p))]) (s2 := [A, B, none, some (.imm (bxD p))]) (s3 := [A, B, none, some (.imm (bxD p))]) rfl rfl q rfl) rfl) rfl rfl
theorem bbox_ok {A B : Option DV} {p : Bx} (h : okB p) : bBox [A, B, none, some (.imm (bxD p))] = .nx [A, B, none, some (.imm (bxD p))] := by
  refine seq_nx (s1 := [A, B, none, some (.imm (bxD p))]) (ifS_f (s1 := [A, B, none, some (.imm (bxD p))]) rfl rfl) ?_
  exact ifS_f (s1 := [A, B, none, some (.imm (bxD p))]) (not_t (tr_ok (box_all h) rfl)) rfl
theorem boxes_ok {L : List Bx} (h : ∀ p ∈ L, okB p) : F_are_boxes [.imm (szD L), .imm (.int L.length)] = .ret (.imm (.bool true)) [.imm (szD L), .imm (.int L.length)] := by
  obtain ⟨s', q, c, rfl, hc⟩ := for_all (gg := gOne 3) (body := bBox) bxD (fun s => ∃ c, s = [some (.imm (szD L)), some (.imm (.int L.length)), none, c] ∧ (c = none ∨ ∃ d, c = some (.imm d))) L _ ⟨none, rfl, .inl rfl⟩ (fun p hp s hs => by
    obtain ⟨c, rfl, hc⟩ := hs
    refine ⟨[some (.imm (szD L)), some (.imm (.int L.length)), none, some (.imm (bxD p))], _, ?_, bbox_ok (h p hp), _, rfl, .inr ⟨_, rfl⟩⟩
    rcases hc with rfl | ⟨d, rfl⟩ <;> rfl)
  refine mkF_imm rfl (s := [some (.imm (szD L)), some (.imm (.int L.length)), none, c]) ?_ rfl
  have e : hNe (.int (L.map bxD).length) (.int L.length) = some (.val (.bool false)) := by
    rw [List.length_map]
    show some (PO.val (.bool !(decide _))) = _
    rw [decide_eq_true rfl]
    rfl
  refine seq_nx (s1 := [some (.imm (szD L)), some (.imm (.int L.length)), none, none]) (ifS_f (s1 := [some (.imm (szD L)), some (.imm (.int L.length)), none, none]) ?_ rfl) ?_
  · refine (or_f (s1 := [some (.imm (szD L)), some (.imm (.int L.length)), none, none]) rfl).trans (tr_ok (f2_val (r1 := .imm (.int (L.map bxD).length)) (r2 := .imm (.int L.length)) rfl rfl rfl rfl e) rfl)
  · exact seq_nx (for_is (s1 := [some (.imm (szD L)), some (.imm (.int L.length)), none, none]) (ds := L.map bxD) rfl q) rfl
/-- a wrong first size -/
theorem boxes_bad {d : D} {ds : List D} {n : Nat} (hn : ds.length + 1 = n) (h : ∀ A B, ∃ s, bBox [A, B, none, some (.imm d)] = .rt (.imm (.bool false)) (A :: B :: s)) : F_are_boxes [.imm (.tuple (d :: ds)), .imm (.int n)] = .ret (.imm (.bool false)) [.imm (.tuple (d :: ds)), .imm (.int n)] := by
  obtain ⟨s, hs⟩ := h (some (.imm (.tuple (d :: ds)))) (some (.imm (.int n)))
  refine mkF_imm rfl (s := some (.imm (.tuple (d :: ds))) :: some (.imm (.int n)) :: s) ?_ rfl
  have e : hNe (.int (d :: ds).length) (.int n) = some (.val (.bool false)) := by
    rw [List.length_cons, hn]
    show some (PO.val (.bool !(decide _))) = _
    rw [decide_eq_true rfl]
    rfl
  refine seq_nx (s1 := [some (.imm (.tuple (d :: ds))), some (.imm (.int n)), none, none]) (ifS_f (s1 := [some (.imm (.tuple (d :: ds))), some (.imm (.int n)), none, none]) ?_ rfl) ?_
  · refine (or_f (s1 := [some (.imm (.tuple (d :: ds))), some (.imm (.int n)), none, none]) rfl).trans (tr_ok (f2_val (r1 := .imm (.int (d :: ds).length)) (r2 := .imm (.int n)) rfl rfl rfl rfl e) rfl)
  · exact seq_rt (for_is (s1 := [some (.imm (.tuple (d :: ds))), some (.imm (.int n)), none, none]) (ds := d :: ds) rfl (for_stop (s1 := [some (.imm (.tuple (d :: ds))), some (.imm (.int n)), none, some (.imm d)]) rfl hs))
theorem boxes_len {ds : List D} {n : Nat} (hn : ds.length ≠ n) : F_are_boxes [.imm (.tuple ds), .imm (.int n)] = .ret (.imm (.bool false)) [.imm (.tuple ds), .imm (.int n)] := by
  refine mkF_imm rfl (s := [some (.imm (.tuple ds)), some (.imm (.int n)), none, none]) ?_ rfl
  have e : hNe (.int ds.length) (.int n) = some (.val (.bool true)) := by
    show some (PO.val (.bool !(decide _))) = _
    rw [decide_eq_false (by omega)]
    rfl
  refine seq_rt (ifS_t (s1 := [some (.imm (.tuple ds)), some (.imm (.int n)), none, none]) ?_ rfl)
  exact (or_f (s1 := [some (.imm (.tuple ds)), some (.imm (.int n)), none, none]) rfl).trans (tr_ok (f2_val (r1 := .imm (.int ds.length)) (r2 := .imm (.int n)) rfl rfl rfl rfl e) rfl)
theorem bad1 (A B : Option DV) : ∃ s, bBox [A, B, none, some (.imm (.tuple [.int 0, .int 1]))] = .rt (.imm (.bool false)) (A :: B :: s) := ⟨_, rfl⟩
theorem bad2 (A B : Option DV) : ∃ s, bBox [A, B, none, some (.imm (.tuple [.int 1, .bool true]))] = .rt (.imm (.bool false)) (A :: B :: s) := ⟨_, rfl⟩
theorem bad3 (A B : Option DV) : ∃ s, bBox [A, B, none, some (.imm (.tuple [.int 1]))] = .rt (.imm (.bool false)) (A :: B :: s) := ⟨_, rfl⟩
theorem bad4 (A B : Option DV) : ∃ s, bBox [A, B, none, some (.imm (.tuple [.int 1000000001, .int 1]))] = .rt (.imm (.bool false)) (A :: B :: s) := ⟨_, rfl⟩
theorem bad5 (A B : Option DV) : ∃ s, bBox [A, B, none, some (.imm (.list [.int 1, .int 1]))] = .rt (.imm (.bool false)) (A :: B :: s) := ⟨_, rfl⟩
theorem bad6 (A B : Option DV) : ∃ s, bBox [A, B, none, some (.imm .none)] = .rt (.imm (.bool false)) (A :: B :: s) := ⟨_, rfl⟩
end DLP
end

set_option Elab.async false
set_option linter.all false
set_option pp.maxSteps 300
set_option maxRecDepth 100000
set_option maxHeartbeats 4000000
noncomputable section
namespace DLP
open PySem PySem.Spec PyProof.Rows DL
/-! ### the shapes told -/
theorem leN (x y : Nat) : leD (natD x) (natD y) = decide (x ≤ y) := by
  unfold leD natD
  rw [PySem.W.dataLt_int]
  by_cases h : x ≤ y
  · rw [decide_eq_true h, decide_eq_false (by omega)]
    rfl
  · rw [decide_eq_false h, decide_eq_true (by omega)]
    rfl
def sortN (l : List Nat) : List Nat := sortB (fun x y => leD (natD x) (natD y)) l
theorem sortN_mem {l : List Nat} {r : Nat} : r ∈ sortN l ↔ r ∈ l := sortB_mem
theorem sortN_lt {l : List Nat} (h : l.Nodup) : (sortN l).Pairwise (· < ·) := by
  have h1 : (sortN l).Pairwise (· ≤ ·) := sortB_pw (le := fun x y => leD (natD x) (natD y)) (R := fun x y : Nat => x ≤ y) (fun x y h => by rw [leN] at h; exact of_decide_eq_true h) (fun x y h => by rw [leN] at h; have := of_decide_eq_false h; omega) (fun x y z h h2 => Nat.le_trans h h2) l
  have h2 : (sortN l).Nodup := sortB_nd h
  exact (h1.and h2).imp fun h => Nat.lt_of_le_of_ne h.1 h.2
theorem okS_N {l : List Nat} (h : l.length ≤ mx) : okS (l.map natD) = true := by
  unfold okS alikeB
  rw [Bool.and_eq_true, Bool.and_eq_true, Bool.and_eq_true, decide_eq_true_eq, List.length_map]
  refine ⟨⟨⟨List.all_eq_true.mpr fun d hd => List.all_eq_true.mpr fun e he => ?_, ?_⟩, List.all_eq_true.mpr fun d hd => ?_⟩, h⟩
  · obtain ⟨x, _, rfl⟩ := List.mem_map.mp hd
    obtain ⟨y, _, rfl⟩ := List.mem_map.mp he
    rfl
  · rw [Bool.or_eq_true]
    refine .inr (List.all_eq_true.mpr fun d hd => ?_)
    obtain ⟨x, _, rfl⟩ := List.mem_map.mp hd
    rfl
  · obtain ⟨x, _, rfl⟩ := List.mem_map.mp hd
    rfl
theorem sorted_N {l : List Nat} (h : l.length ≤ mx) : hSorted [lotD l] = some (.lst ((sortN l).map natD)) := by
  unfold lotD hSorted
  dsimp only
  rw [if_pos (okS_N h), sortD_map]
  rfl
def fin (x : Sh) : Sh := ⟨x.w, x.h, sortN x.l⟩
/-- the shapes that are told -/
structure Told (sz : Nat → Bx) (t : T) (n : Nat) (S : List Sh) : Prop where
  fr : Fr (fun p => ∃ m, boxT sz m t = p) (S.map Sh.bx)
  asc : ∀ x ∈ S, x.l.Pairwise (· < ·)
  rm : ∀ x ∈ S, ∀ r ∈ x.l, r < n
  bx : ∀ x ∈ S, boxT sz (fun r => decide (r ∈ x.l)) t = x.bx
  len : S.length ≤ 128
theorem shapes_ok {t : T} {n : Nat} {L : List Bx} {sz : Nat → Bx} (ht : TOk t n) (hL : L.length = n) (hb : ∀ p ∈ L, okB p) (hs : ∀ r < n, L[r]? = some (sz r)) : ∃ S, Told sz t n S ∧ F_shapes [.imm (encT t), .imm (szD L)] = .ret (.tmp (S.map encS)) [.imm (encT t), .imm (szD L)] := by
  have n7 := ht.n7
  obtain ⟨S, g, hl, hF⟩ := of_ok (L := L) (sz := sz) 12 t ht.dp (by rw [ht.rm]; exact List.nodup_range) (by rw [ht.rm, List.length_range]; exact n7) (fun r hr => hs r (by rw [ht.rm, List.mem_range] at hr; exact hr))
  have len : S.length ≤ 128 := by
    rw [ht.rm, List.length_range] at hl
    exact Nat.le_trans hl (Nat.pow_le_pow_right (by decide : 0 < 2) n7)
  have h128 : S.length ≤ mx := by
    have : mx = 16000000 := rfl
    omega
  have lls : ∀ x ∈ S, x.l.length ≤ mx := fun x hx => by
    have := nd_len (g.nd x hx) (g.rm x hx)
    rw [ht.rm, List.length_range] at this
    have : mx = 16000000 := rfl
    omega
  have hr : F_rooms_in 12 [.imm (encT t)] = .ret (.tmp ((List.range n).map natD)) [.imm (encT t)] := ht.read
  have hbx := boxes_ok hb
  rw [hL] at hbx
  refine ⟨S.map fin, ⟨?_, fun x hx => ?_, fun x hx r hr => ?_, fun x hx => ?_, ?_⟩, ?_⟩
  · rw [List.map_map]
    exact g.fr
  · obtain ⟨y, hy, rfl⟩ := List.mem_map.mp hx
    exact sortN_lt (g.nd y hy)
  · obtain ⟨y, hy, rfl⟩ := List.mem_map.mp hx
    have := g.rm y hy r (sortN_mem.mp hr)
    rw [ht.rm, List.mem_range] at this
    exact this
  · obtain ⟨y, hy, rfl⟩ := List.mem_map.mp hx
    rw [show (fin y).bx = y.bx from rfl, ← g.bx y hy]
    exact boxT_congr t fun r _ => decide_eq_decide.mpr sortN_mem
  · rw [List.length_map]
    exact len
  · let s0 : SD := [some (.imm (encT t)), some (.imm (szD L)), none, none, none]
    have q := loopC_mapE (gg := gMany [2, 3, 4]) (cond := fYes) (elt := fTup (faCons (fName 2) (faCons (fName 3) (faCons (fCall hTuple (faCons (fCall hSorted (faCons (fName 4) faNil)) faNil)) faNil)))) (vs := [2, 3, 4]) (s := s0) encS (fun x => encS (fin x)) S [] (fun x hx => by
      let s1 : SD := [some (.imm (encT t)), some (.imm (szD L)), some (.imm (.int x.w)), some (.imm (.int x.h)), some (.imm (lotD x.l))]
      refine ⟨s1, s1, s1, rfl, rfl, ?_, rfl⟩
      have e : fCall hTuple (faCons (fCall hSorted (faCons (fName 4) faNil)) faNil) s1 = .ok (.imm (lotD (sortN x.l))) s1 :=
        call_ok (rs := [.tmp ((sortN x.l).map natD)]) (ds := [.list ((sortN x.l).map natD)]) (o := .tup ((sortN x.l).map natD)) (cons_ok (call_ok (rs := [.imm (lotD x.l)]) rfl rfl (sorted_N (lls x hx))) rfl) rfl rfl
      have e2 : faCons (fName 2) (faCons (fName 3) (faCons (fCall hTuple (faCons (fCall hSorted (faCons (fName 4) faNil)) faNil)) faNil)) s1 = .ok [.imm (.int x.w), .imm (.int x.h), .imm (lotD (sortN x.l))] s1 := cons_ok rfl (cons_ok rfl (cons_ok e rfl))
      unfold fTup
      rw [e2]
      rfl) (by
      rw [List.length_nil, Nat.zero_add]
      exact h128)
    rw [List.nil_append] at q
    refine mkF_tmp rfl (s := s0) ?_ rfl
    refine seq_nx (s1 := s0) (ifS_f (s1 := s0) (not_t (tr_ok (callF_imm (rs := [.imm (encT t)]) rfl rfl rfl ht.isTree) rfl)) rfl) ?_
    refine seq_nx (s1 := s0) (ifS_f (s1 := s0) (not_t (tr_ok (callF_imm (rs := [.imm (szD L), .imm (.int n)]) (cons_ok (s1 := s0) (v := .imm (szD L)) rfl (cons_ok (v := .imm (.int n)) (s2 := s0) (s1 := s0) ?_ rfl)) rfl rfl hbx) rfl)) rfl) ?_
    · refine (call_val (s1 := s0) (rs := [.tmp ((List.range n).map natD)]) (ds := [.list ((List.range n).map natD)]) (x := .int ((List.range n).map natD).length) (cons_ok (callF_tmp (rs := [.imm (encT t)]) rfl rfl rfl hr) rfl) rfl rfl).trans ?_
      rw [List.length_map, List.length_range]
    · rw [List.map_map]
      exact ret_tmp (lc_ok (s1 := s0) (s2 := s0) (s3 := s0) (it_list (fI_tmp (callF_tmp (rs := [.imm (encT t), .imm (szD L)]) rfl rfl rfl hF))) rfl q rfl)
/-! ### what is refused -/
theorem shapes_no {t : T} {n : Nat} {x : D} (ht : TOk t n) (hb : F_are_boxes [.imm x, .imm (.int n)] = .ret (.imm (.bool false)) [.imm x, .imm (.int n)]) : F_shapes [.imm (encT t), .imm x] = .exc ⟨1, none⟩ [.imm (encT t), .imm x] := by
  have hr : F_rooms_in 12 [.imm (encT t)] = .ret (.tmp ((List.range n).map natD)) [.imm (encT t)] := ht.read
  let s0 : SD := [some (.imm (encT t)), some (.imm x), none, none, none]
  refine mkF_exc rfl (s := s0) ?_ rfl
  refine seq_nx (s1 := s0) (ifS_f (s1 := s0) (not_t (tr_ok (callF_imm (rs := [.imm (encT t)]) rfl rfl rfl ht.isTree) rfl)) rfl) ?_
  refine seq_ex (ifS_t (s1 := s0) (not_f (tr_ok (callF_imm (rs := [.imm x, .imm (.int n)]) (cons_ok (s1 := s0) (v := .imm x) rfl (cons_ok (v := .imm (.int n)) (s2 := s0) (s1 := s0) ?_ rfl)) rfl rfl hb) rfl)) rfl)
  refine (call_val (s1 := s0) (rs := [.tmp ((List.range n).map natD)]) (ds := [.list ((List.range n).map natD)]) (x := .int ((List.range n).map natD).length) (cons_ok (callF_tmp (rs := [.imm (encT t)]) rfl rfl rfl hr) rfl) rfl rfl).trans ?_
  rw [List.length_map, List.length_range]
theorem refusal_sizes {a x : D} (h : F_shapes [.imm a, .imm x] = .exc ⟨1, none⟩ [.imm a, .imm x]) : F__law_refusal [.imm a, .imm x] = .ret (.imm (.str "sizes")) [.imm a, .imm x] := by
  refine mkF_imm rfl (s := [some (.imm a), some (.imm x), none]) ?_ rfl
  refine seq_rt ?_
  have e : fDrop (fCallF F_shapes (faCons (fName 0) (faCons (fName 1) faNil))) (s0 [.imm a, .imm x] 3) = .ex _ [some (.imm a), some (.imm x), none] := drop_ex (callF_exc (s1 := [some (.imm a), some (.imm x), none]) (rs := [.imm a, .imm x]) rfl rfl rfl h)
  unfold fTry
  rw [e]
  rfl
theorem refusal_tree {a x : D} (h : F_shapes [.imm a, .imm x] = .exc ⟨2, none⟩ [.imm a, .imm x]) : F__law_refusal [.imm a, .imm x] = .ret (.imm (.str "tree")) [.imm a, .imm x] := by
  refine mkF_imm rfl (s := [some (.imm a), some (.imm x), none]) ?_ rfl
  refine seq_rt ?_
  have e : fDrop (fCallF F_shapes (faCons (fName 0) (faCons (fName 1) faNil))) (s0 [.imm a, .imm x] 3) = .ex _ [some (.imm a), some (.imm x), none] := drop_ex (callF_exc (s1 := [some (.imm a), some (.imm x), none]) (rs := [.imm a, .imm x]) rfl rfl rfl h)
  unfold fTry
  rw [e]
  rfl
theorem rf1 : F__law_refusal [.imm .none, .imm .none] = .ret (.imm (.str "tree")) [.imm .none, .imm .none] := by kernel_rfl
theorem rf2 : F__law_refusal [.imm (.int 1), .imm .none] = .ret (.imm (.str "tree")) [.imm (.int 1), .imm .none] := by kernel_rfl
theorem rf3 : F__law_refusal [.imm (.tuple []), .imm .none] = .ret (.imm (.str "tree")) [.imm (.tuple []), .imm .none] := by kernel_rfl
theorem rf4 : F__law_refusal [.imm (.tuple [.str "up", .int 0, .int 0]), .imm .none] = .ret (.imm (.str "tree")) [.imm (.tuple [.str "up", .int 0, .int 0]), .imm .none] := by kernel_rfl
/-- the wrong sizes of the law -/
theorem refuse_of {t : T} {n : Nat} {x : D} (ht : TOk t n) (hb : F_are_boxes [.imm x, .imm (.int n)] = .ret (.imm (.bool false)) [.imm x, .imm (.int n)]) : F__law_refusal [.imm (encT t), .imm x] = .ret (.imm (.str "sizes")) [.imm (encT t), .imm x] := refusal_sizes (shapes_no ht hb)
theorem notup {x : D} {n : Nat} (h : hIs .tuple x = some (.val (.bool false))) : F_are_boxes [.imm x, .imm (.int n)] = .ret (.imm (.bool false)) [.imm x, .imm (.int n)] := by
  refine mkF_imm rfl (s := [some (.imm x), some (.imm (.int n)), none, none]) ?_ rfl
  exact seq_rt (ifS_t (s1 := [some (.imm x), some (.imm (.int n)), none, none]) (or_t (not_f (tr_ok (f1_val (r1 := .imm x) rfl rfl h) rfl))) rfl)
end DLP
end

set_option Elab.async false
set_option linter.all false
set_option pp.maxSteps 300
set_option maxRecDepth 100000
set_option maxHeartbeats 4000000
noncomputable section
namespace DLP
open PySem PySem.Spec PyProof.Rows DL
/-! ### lots of rooms -/
theorem asBools_map {α : Type} (p : α → Bool) : ∀ l : List α, asBools (l.map fun x => .bool (p x)) = some (l.map p)
  | [] => rfl
  | x :: l => by
    show (asBools (l.map fun x => .bool (p x))).map (p x :: ·) = _
    rw [asBools_map p l]
    rfl
theorem hAll_map {α : Type} (p : α → Bool) (l : List α) : hAll [.list (l.map fun x => .bool (p x))] = some (.val (.bool (l.all p))) := by
  show (asBools _).map _ = _
  rw [asBools_map]
  show some (PO.val (.bool ((l.map p).all id))) = _
  rw [List.all_map]
  rfl
theorem rng2_ok {fa : FA} {s s1 : SD} {i j : Nat} (h : fa s = .ok [.imm (.int i), .imm (.int j)] s1) (hi : i ≤ mx) (hb : j ≤ mx) : fRng2 fa s = .ok (rgFrom i (j - i)) s1 := by
  unfold fRng2
  rw [h, rbind_ok]
  dsimp only
  rw [if_pos (by rw [bnd_mx hi, bnd_mx hb]; rfl), show ((j : Int) - (i : Int)).toNat = j - i by omega]
theorem rgFrom_map : ∀ (m i : Nat), rgFrom (i : Int) m = (List.range' i m).map natD
  | 0, i => rfl
  | m + 1, i => by
    show PyData.int (i : Int) :: rgFrom ((i : Int) + 1) m = _
    rw [show ((i : Int) + 1) = ((i + 1 : Nat) : Int) by omega, rgFrom_map m (i + 1)]
    rfl
theorem lot_in {l : List Nat} {n : Nat} (hl : l.length ≤ mx) : fCall hAll (faCons (fLc (fIt (fName 0)) [2] (gOne 2) fYes (fAndV (fCallF F_is_integer (faCons (fName 2) faNil)) (fChain (fImm (.int 0)) (fcLink hLe (fName 2) (fcLast hLt (fName 1)))))) faNil) [some (.imm (lotD l)), some (.imm (.int n)), none, none] = .ok (.imm (.bool (l.all fun r => decide (r < n)))) [some (.imm (lotD l)), some (.imm (.int n)), none, none] := by
  have q := loopC_mapE (gg := gOne 2) (cond := fYes) (elt := (fAndV (fCallF F_is_integer (faCons (fName 2) faNil)) (fChain (fImm (.int 0)) (fcLink hLe (fName 2) (fcLast hLt (fName 1)))))) (vs := [2]) (s := [some (.imm (lotD l)), some (.imm (.int n)), none, none]) natD (fun r => .bool (decide (r < n))) l [] (fun r m => by
    refine ⟨[some (.imm (lotD l)), some (.imm (.int n)), some (.imm (.int r)), none], [some (.imm (lotD l)), some (.imm (.int n)), some (.imm (.int r)), none], [some (.imm (lotD l)), some (.imm (.int n)), some (.imm (.int r)), none], rfl, rfl, ?_, rfl⟩
    have e1 : decide ((0 : Int) ≤ r) = true := decide_eq_true (by omega)
    have e2 : decide ((r : Int) < n) = decide (r < n) := decide_eq_decide.mpr (by omega)
    simp only [mkF, s0, av1, List.length_cons, List.length_nil, List.map_cons, List.map_nil, List.replicate, List.cons_append, List.nil_append, fSeq, fSetI, fSetO, fI, fCallF, faCons, faNil, fName, g0, gs, z0, zs, R.bind, R.stm, toAVs, slotsOf, toImm, setD, fIfS, fOr, fAnd, fNot, fTr, asB, Bool.not_true, Bool.not_false, fChain, fImm, fcLink, fcLast, view, hLe, hLt, hGe, hGt, hCmp, fCall, views, hLen, oR, poR, fNx, fRet, f1, f2, outA, Option.map, if_true, fSub, fPar, setM, setC, Option.map_some, hAdd, hSub, hInt, fDrop, fAndV, fOrV, fNotV, fLst, fTup, allImm, fTgt, fRetN, fBk, fCt, fRaise0, Option.bind_some, fIf, gOne, gMany, setsD, fPar2, isSlot, Bool.false_eq_true, if_false, fApp, Option.some.injEq, Bool.or_self, Bool.or_false, Bool.false_or, mx0, mx1, mx2, mx3, isint_int, e1, e2]) (by rw [List.length_nil, Nat.zero_add]; exact hl)
  exact call_val (cons_ok (lc_ok (ds := l.map natD) (s1 := [some (.imm (lotD l)), some (.imm (.int n)), none, none]) (s2 := [some (.imm (lotD l)), some (.imm (.int n)), none, none]) (s3 := [some (.imm (lotD l)), some (.imm (.int n)), none, none]) rfl rfl q rfl) rfl) rfl (hAll_map _ l)
theorem lot_asc {l : List Nat} {N : Option DV} (hl : l.length ≤ mx) (ha : l.Pairwise (· < ·)) : fCall hAll (faCons (fLc (fRng2 (faCons (fImm (.int 1)) (faCons (fCall hLen (faCons (fName 0) faNil)) faNil))) [3] (gOne 3) fYes (f2 hLt (f2 hIx (fName 0) (f2 hSub (fName 3) (fImm (.int 1)))) (f2 hIx (fName 0) (fName 3)))) faNil) [some (.imm (lotD l)), N, none, none] = .ok (.imm (.bool true)) [some (.imm (lotD l)), N, none, none] := by
  have q := loopC_mapE (gg := gOne 3) (cond := fYes) (elt := (f2 hLt (f2 hIx (fName 0) (f2 hSub (fName 3) (fImm (.int 1)))) (f2 hIx (fName 0) (fName 3)))) (vs := [3]) (s := [some (.imm (lotD l)), N, none, none]) natD (fun r => .bool true) (List.range' 1 (l.length - 1)) [] (fun r m => by
    let s1 : SD := [some (.imm (lotD l)), N, none, some (.imm (.int r))]
    refine ⟨s1, s1, s1, rfl, rfl, ?_, rfl⟩
    obtain ⟨m1, m2⟩ := List.mem_range'_1.mp m
    have h1 : r - 1 < l.length := by omega
    have h2 : r < l.length := by omega
    have lt : l[r - 1] < l[r] := (List.pairwise_iff_getElem.mp ha) (r - 1) r h1 h2 (by omega)
    have i1 : hIx (lotD l) (.int ((r : Int) - 1)) = some (.val (natD l[r - 1])) := by
      rw [show ((r : Int) - 1) = ((r - 1 : Nat) : Int) by omega]
      exact (ix_of (ds := l.map natD) (by rw [List.getElem?_map, List.getElem?_eq_getElem h1]; rfl)).1
    have i2 : hIx (lotD l) (.int (r : Int)) = some (.val (natD l[r])) := (ix_of (ds := l.map natD) (by rw [List.getElem?_map, List.getElem?_eq_getElem h2]; rfl)).1
    refine f2_val (s1 := s1) (r1 := .imm (natD l[r - 1])) (r2 := .imm (natD l[r])) (f2_val (s1 := s1) (r1 := .imm (lotD l)) (r2 := .imm (.int ((r : Int) - 1))) rfl rfl rfl rfl i1) (f2_val (s1 := s1) (r1 := .imm (lotD l)) (r2 := .imm (.int (r : Int))) rfl rfl rfl rfl i2) rfl rfl ?_
    show some (PO.val (.bool (decide ((l[r - 1] : Int) < (l[r] : Int))))) = _
    rw [decide_eq_true (by omega)]) (by
      rw [List.length_nil, Nat.zero_add, List.length_range']
      omega)
  have e : fRng2 (faCons (fImm (.int 1)) (faCons (fCall hLen (faCons (fName 0) faNil)) faNil)) [some (.imm (lotD l)), N, none, none] = .ok ((List.range' 1 (l.length - 1)).map natD) [some (.imm (lotD l)), N, none, none] := by
    rw [← rgFrom_map]
    refine rng2_ok (i := 1) ?_ (by decide) hl
    show R.ok [RV.imm (.int 1), RV.imm (.int (l.map natD).length)] _ = _
    rw [List.length_map]
    rfl
  refine call_val (cons_ok (lc_ok (s1 := [some (.imm (lotD l)), N, none, none]) (s2 := [some (.imm (lotD l)), N, none, none]) (s3 := [some (.imm (lotD l)), N, none, none]) e rfl q rfl) rfl) rfl ?_
  rw [List.nil_append, hAll_map (fun _ => true)]
  rw [List.all_eq_true.mpr (fun _ _ => rfl)]
/-- a lot: ascending rooms of the tree -/
def Lot (n : Nat) (l : List Nat) : Prop := l.Pairwise (· < ·) ∧ (∀ r ∈ l, r < n)
theorem asc_len : ∀ {l : List Nat} {n : Nat}, Lot n l → l.length ≤ n := fun {l n} h => by
  have nd : l.Nodup := h.1.imp fun h => Nat.ne_of_lt h
  have := nd_len (m := List.range n) nd fun r hr => List.mem_range.mpr (h.2 r hr)
  rwa [List.length_range] at this
theorem mx_of {n : Nat} (h : n ≤ 1000) : n ≤ mx := by
  have : mx = 16000000 := rfl
  omega
theorem lot_yes {l : List Nat} {n : Nat} (hn : n ≤ 7) (h : Lot n l) : F_is_rooms_lot [.imm (lotD l), .imm (.int n)] = .ret (.imm (.bool true)) [.imm (lotD l), .imm (.int n)] := by
  have hl : l.length ≤ mx := mx_of (by have := asc_len h; omega)
  have q := lot_in (n := n) hl
  rw [List.all_eq_true.mpr fun r hr => decide_eq_true (h.2 r hr)] at q
  refine mkF_imm rfl (s := [some (.imm (lotD l)), some (.imm (.int n)), none, none]) ?_ rfl
  refine seq_nx (s1 := [some (.imm (lotD l)), some (.imm (.int n)), none, none]) (ifS_f (s1 := [some (.imm (lotD l)), some (.imm (.int n)), none, none]) ((or_f (s1 := [some (.imm (lotD l)), some (.imm (.int n)), none, none]) rfl).trans (not_t (tr_ok q rfl))) rfl) ?_
  exact ret_imm (lot_asc hl h.1)
theorem lot_out {l : List Nat} {n : Nat} (hn : n ≤ 7) (hl : l.length ≤ 100) (h : ∃ r ∈ l, ¬ r < n) : F_is_rooms_lot [.imm (lotD l), .imm (.int n)] = .ret (.imm (.bool false)) [.imm (lotD l), .imm (.int n)] := by
  have q := lot_in (n := n) (l := l) (mx_of (by omega))
  have e : (l.all fun r => decide (r < n)) = false := by
    obtain ⟨r, hr, h⟩ := h
    exact List.all_eq_false.mpr ⟨r, hr, by simpa using h⟩
  rw [e] at q
  refine mkF_imm rfl (s := [some (.imm (lotD l)), some (.imm (.int n)), none, none]) ?_ rfl
  exact seq_rt (ifS_t (s1 := [some (.imm (lotD l)), some (.imm (.int n)), none, none]) ((or_f (s1 := [some (.imm (lotD l)), some (.imm (.int n)), none, none]) rfl).trans (not_f (tr_ok q rfl))) rfl)
theorem lot_list {ds : List D} {n : Nat} : F_is_rooms_lot [.imm (.list ds), .imm (.int n)] = .ret (.imm (.bool false)) [.imm (.list ds), .imm (.int n)] := rfl
end DLP
end

set_option Elab.async false
set_option linter.all false
set_option pp.maxSteps 300
set_option maxRecDepth 100000
set_option maxHeartbeats 4000000
noncomputable section
namespace DLP
open PySem PySem.Spec PyProof.Rows DL
/-! ### a paper is judged, entry by entry -/
def bEnt : FS := (fSeq (fIfS (fOr (fNot (fTr (f1 (hIs .tuple) (fName 3)))) (fOr (fTr (f2 hNe (fCall hLen (faCons (fName 3) faNil)) (fImm (.int 3)))) (fNot (fTr (fCallF F_is_rooms_lot (faCons (f2 hIx (fName 3) (fImm (.int 2))) (faCons (fCall hLen (faCons (fName 1) faNil)) faNil))))))) (fRet (fImm (.bool false))) fNx) (fSeq (fIfS (fNot (fTr (fCall hAll (faCons (fLc (fIt (fI (fSl (fName 3) foNone (foSome (fImm (.int 2)))))) [4] (gOne 4) fYes (fI (fCallF F_is_integer (faCons (fName 4) faNil)))) faNil)))) (fRet (fImm (.bool false))) fNx) (fIfS (fOr (fTr (f2 hNe (fSl (fName 3) foNone (foSome (fImm (.int 2)))) (fSl (fName 5) foNone (foSome (fImm (.int 2)))))) (fTr (f2 hNe (fCallF (F_shape_with 12) (faCons (fName 0) (faCons (fName 1) (faCons (f2 hIx (fName 3) (fImm (.int 2))) faNil)))) (fSl (fName 3) foNone (foSome (fImm (.int 2))))))) (fRet (fImm (.bool false))) fNx)))
def entS (t : T) (L : List Bx) (A : D) (d : D) (x : Sh) (U : List D) : SD := [some (.imm (encT t)), some (.imm (szD L)), some (.imm A), some (.imm d), none, some (.imm (encS x)), some (.imm (.list U))]
def Yes (t : T) (L : List Bx) (d : D) (x : Sh) : Prop := ∀ A U, bEnt (entS t L A d x U) = .nx (entS t L A d x U)
def No (t : T) (L : List Bx) (d : D) (x : Sh) : Prop := ∀ A U, bEnt (entS t L A d x U) = .rt (.imm (.bool false)) (entS t L A d x U)
theorem sl2 (w h c : D) : hSl (.tuple [w, h, c]) none (some 2) none = some (.tup [w, h]) := rfl
theorem ne_bx (p q : Bx) : hNe (bxD p) (bxD q) = some (.val (.bool (!decide (p = q)))) := by
  have e : PyData.eqv (bxD p) (bxD q) = decide (p = q) := by
    show ((p.1 == q.1) && ((p.2 == q.2) && true)) = _
    obtain ⟨a, b⟩ := p
    obtain ⟨c, d⟩ := q
    rw [Bool.and_true]
    by_cases h : a = c ∧ b = d
    · obtain ⟨rfl, rfl⟩ := h
      simp
    · have : ¬ ((a, b) = (c, d)) := fun z => h (by cases z; exact ⟨rfl, rfl⟩)
      rw [decide_eq_false this]
      simp only [Bool.and_eq_false_iff, beq_eq_false_iff_ne]
      by_cases h1 : a = c
      · exact .inr fun z => h ⟨h1, z⟩
      · exact .inl h1
  show (eqF (bxD p) (bxD q)).map _ = _
  have e2 : eqF (bxD p) (bxD q) = some (PyData.eqv (bxD p) (bxD q)) := rfl
  rw [e2, e]
  rfl
section
variable {t : T} {n : Nat} {L : List Bx} {sz : Nat → Bx} (ht : TOk t n) (hL : L.length = n) (hs : ∀ r < n, L[r]? = some (sz r))
include ht hL hs
theorem ent_lot {l : List Nat} {w h : Int} {x : Sh} (hl : Lot n l) (A : D) (U : List D) : bEnt (entS t L A (.tuple [.int w, .int h, lotD l]) x U) = if (w, h) = x.bx ∧ boxT sz (fun r => decide (r ∈ l)) t = (w, h) then .nx (entS t L A (.tuple [.int w, .int h, lotD l]) x U) else .rt (.imm (.bool false)) (entS t L A (.tuple [.int w, .int h, lotD l]) x U) := by
  let S : SD := entS t L A (.tuple [.int w, .int h, lotD l]) x U
  have eL : (L.map bxD).length = n := by rw [List.length_map, hL]
  have b := with_ok (L := L) (sz := sz) (l := l) 12 t ht.dp (fun r hr => hs r (by rw [ht.rm, List.mem_range] at hr; exact hr))
  have e1 : fCallF F_is_rooms_lot (faCons (f2 hIx (fName 3) (fImm (.int 2))) (faCons (fCall hLen (faCons (fName 1) faNil)) faNil)) S = .ok (.imm (.bool true)) S := by
    refine callF_imm (rs := [.imm (lotD l), .imm (.int n)]) (as := [.imm (lotD l), .imm (.int n)]) ?_ rfl rfl (lot_yes ht.n7 hl)
    refine cons_ok (s1 := S) rfl (cons_ok (s1 := S) (v := .imm (.int n)) ?_ rfl)
    refine (call_val (s1 := S) (rs := [.imm (szD L)]) (x := .int (L.map bxD).length) rfl rfl rfl).trans ?_
    rw [eL]
  have e2 : fSl (fName 3) foNone (foSome (fImm (.int 2))) S = .ok (.imm (.tuple [.int w, .int h])) S := rfl
  have e3 : fSl (fName 5) foNone (foSome (fImm (.int 2))) S = .ok (.imm (bxD x.bx)) S := rfl
  have e4 : fCall hAll (faCons (fLc (fIt (fI (fSl (fName 3) foNone (foSome (fImm (.int 2)))))) [4] (gOne 4) fYes (fI (fCallF F_is_integer (faCons (fName 4) faNil)))) faNil) S = .ok (.imm (.bool true)) S := rfl
  have e5 : fCallF (F_shape_with 12) (faCons (fName 0) (faCons (fName 1) (faCons (f2 hIx (fName 3) (fImm (.int 2))) faNil))) S = .ok (.imm (bxD (boxT sz (fun r => decide (r ∈ l)) t))) S := callF_imm (rs := [.imm (encT t), .imm (szD L), .imm (lotD l)]) rfl rfl rfl b
  refine seq_nx (s1 := S) (ifS_f (s1 := S) ((or_f (s1 := S) rfl).trans ((or_f (s1 := S) rfl).trans (not_t (tr_ok e1 rfl)))) rfl) ?_
  refine seq_nx (s1 := S) (ifS_f (s1 := S) (not_t (tr_ok e4 rfl)) rfl) ?_
  by_cases h1 : (w, h) = x.bx
  · by_cases h2 : boxT sz (fun r => decide (r ∈ l)) t = (w, h)
    · rw [if_pos ⟨h1, h2⟩]
      refine ifS_f (s1 := S) ((or_f (s1 := S) (tr_ok (f2_val (r1 := .imm (bxD (w, h))) (r2 := .imm (bxD x.bx)) e2 e3 rfl rfl (ne_bx _ _)) (by rw [decide_eq_true h1]; rfl))).trans (tr_ok (f2_val (r1 := .imm (bxD (boxT sz (fun r => decide (r ∈ l)) t))) (r2 := .imm (bxD (w, h))) e5 e2 rfl rfl (ne_bx _ _)) (by rw [decide_eq_true h2]; rfl))) rfl
    · rw [if_neg (fun z => h2 z.2)]
      refine ifS_t (s1 := S) ((or_f (s1 := S) (tr_ok (f2_val (r1 := .imm (bxD (w, h))) (r2 := .imm (bxD x.bx)) e2 e3 rfl rfl (ne_bx _ _)) (by rw [decide_eq_true h1]; rfl))).trans (tr_ok (f2_val (r1 := .imm (bxD (boxT sz (fun r => decide (r ∈ l)) t))) (r2 := .imm (bxD (w, h))) e5 e2 rfl rfl (ne_bx _ _)) (by rw [decide_eq_false h2]; rfl))) rfl
  · rw [if_neg (fun z => h1 z.1)]
    exact ifS_t (s1 := S) (or_t (tr_ok (f2_val (r1 := .imm (bxD (w, h))) (r2 := .imm (bxD x.bx)) e2 e3 rfl rfl (ne_bx _ _)) (by rw [decide_eq_false h1]; rfl))) rfl
theorem yes_lot {l : List Nat} {w h : Int} {x : Sh} (hl : Lot n l) (h1 : (w, h) = x.bx) (h2 : boxT sz (fun r => decide (r ∈ l)) t = (w, h)) : Yes t L (.tuple [.int w, .int h, lotD l]) x := fun A U => by
  rw [ent_lot ht hL hs hl, if_pos ⟨h1, h2⟩]
theorem no_lot {l : List Nat} {w h : Int} {x : Sh} (hl : Lot n l) (h1 : ¬ ((w, h) = x.bx ∧ boxT sz (fun r => decide (r ∈ l)) t = (w, h))) : No t L (.tuple [.int w, .int h, lotD l]) x := fun A U => by
  rw [ent_lot ht hL hs hl, if_neg h1]
omit hs in
theorem no_third {c w h : D} {x : Sh} (hc : F_is_rooms_lot [.imm c, .imm (.int n)] = .ret (.imm (.bool false)) [.imm c, .imm (.int n)]) : No t L (.tuple [w, h, c]) x := fun A U => by
  let S : SD := entS t L A (.tuple [w, h, c]) x U
  have eL : (L.map bxD).length = n := by rw [List.length_map, hL]
  have e1 : fCallF F_is_rooms_lot (faCons (f2 hIx (fName 3) (fImm (.int 2))) (faCons (fCall hLen (faCons (fName 1) faNil)) faNil)) S = .ok (.imm (.bool false)) S := by
    refine callF_imm (rs := [.imm c, .imm (.int n)]) (as := [.imm c, .imm (.int n)]) ?_ rfl rfl hc
    refine cons_ok (s1 := S) rfl (cons_ok (s1 := S) (v := .imm (.int n)) ?_ rfl)
    refine (call_val (s1 := S) (rs := [.imm (szD L)]) (x := .int (L.map bxD).length) rfl rfl rfl).trans ?_
    rw [eL]
  exact seq_rt (ifS_t (s1 := S) ((or_f (s1 := S) rfl).trans ((or_f (s1 := S) rfl).trans (not_f (tr_ok e1 rfl)))) rfl)
omit ht hL hs in
theorem no_two {w h : D} {x : Sh} : No t L (.tuple [w, h]) x := fun A U => rfl
end
/-! ### the judge -/
theorem zip_map {α : Type} (f g : α → D) : ∀ ps : List α, zipD (ps.map f) (ps.map g) = ps.map fun p => .tuple [f p, g p]
  | [] => rfl
  | p :: ps => by
    show PyData.tuple [f p, g p] :: zipD (ps.map f) (ps.map g) = _
    rw [zip_map f g ps]
    rfl
def enP (p : D × Sh) : D := .tuple [p.1, encS p.2]
def stA (t : T) (L : List Bx) (A : D) (S : List Sh) (c e : Option DV) : SD := [some (.imm (encT t)), some (.imm (szD L)), some (.imm A), c, none, e, some (.imm (.list (S.map encS)))]
def invA (t : T) (L : List Bx) (A : D) (S : List Sh) (s : SD) : Prop := ∃ c e, s = stA t L A S c e ∧ (c = none ∨ ∃ d, c = some (.imm d)) ∧ (e = none ∨ ∃ d, e = some (.imm d))
theorem inv_g {t : T} {L : List Bx} {A d : D} {x : Sh} {S : List Sh} {s : SD} (h : invA t L A S s) : gMany [3, 5] (enP (d, x)) s = some (entS t L A d x (S.map encS)) := by
  obtain ⟨c, e, rfl, hc, he⟩ := h
  rcases hc with rfl | ⟨c, rfl⟩ <;> rcases he with rfl | ⟨e, rfl⟩ <;> rfl
theorem inv_e {t : T} {L : List Bx} {A d : D} {x : Sh} {S : List Sh} : invA t L A S (entS t L A d x (S.map encS)) := ⟨_, _, rfl, .inr ⟨_, rfl⟩, .inr ⟨_, rfl⟩⟩
theorem judge_head {t : T} {L : List Bx} {S : List Sh} {A : List D} {k : FS} {r : RS} (hF : F_shapes [.imm (encT t), .imm (szD L)] = .ret (.tmp (S.map encS)) [.imm (encT t), .imm (szD L)]) (hl : A.length = S.length) (hk : k (stA t L (.list A) S none none) = r) :
    fSeq (fSetI 6 (fCallF F_shapes (faCons (fName 0) (faCons (fName 1) faNil)))) (fSeq (fIfS (fOr (fNot (fTr (f1 (hIs .list) (fName 2)))) (fTr (f2 hNe (fCall hLen (faCons (fName 2) faNil)) (fCall hLen (faCons (fName 6) faNil))))) (fRet (fImm (.bool false))) fNx) k) (s0 [.imm (encT t), .imm (szD L), .imm (.list A)] 7) = r := by
  let s1 : SD := stA t L (.list A) S none none
  refine seq_nx (s1 := s1) (setI_tmp (s1 := [some (.imm (encT t)), some (.imm (szD L)), some (.imm (.list A)), none, none, none, none]) (callF_tmp (rs := [.imm (encT t), .imm (szD L)]) rfl rfl rfl hF) rfl) ?_
  have e : hNe (.int A.length) (.int (S.map encS).length) = some (.val (.bool false)) := by
    rw [List.length_map, hl]
    show some (PO.val (.bool !(decide _))) = _
    rw [decide_eq_true rfl]
    rfl
  refine seq_nx (s1 := s1) (ifS_f (s1 := s1) ((or_f (s1 := s1) rfl).trans (tr_ok (f2_val (r1 := .imm (.int A.length)) (r2 := .imm (.int (S.map encS).length)) rfl rfl rfl rfl e) rfl)) rfl) hk
theorem judge_yes {t : T} {L : List Bx} {S : List Sh} (hF : F_shapes [.imm (encT t), .imm (szD L)] = .ret (.tmp (S.map encS)) [.imm (encT t), .imm (szD L)]) (ps : List (D × Sh)) (hS : ps.map Prod.snd = S) (hy : ∀ p ∈ ps, Yes t L p.1 p.2) : F_are_shapes [.imm (encT t), .imm (szD L), .imm (.list (ps.map Prod.fst))] = .ret (.imm (.bool true)) [.imm (encT t), .imm (szD L), .imm (.list (ps.map Prod.fst))] := by
  obtain ⟨s', q, hI⟩ := for_all (gg := gMany [3, 5]) (body := bEnt) enP (invA t L (.list (ps.map Prod.fst)) S) ps (stA t L (.list (ps.map Prod.fst)) S none none) ⟨_, _, rfl, .inl rfl, .inl rfl⟩ (fun p hp s hs => ⟨_, _, inv_g hs, hy p hp _ _, inv_e⟩)
  obtain ⟨c, e, rfl, _, _⟩ := hI
  refine mkF_imm rfl (s := stA t L (.list (ps.map Prod.fst)) S c e) (judge_head hF (by rw [← hS, List.length_map, List.length_map]) ?_) rfl
  refine seq_nx (for_is (s1 := stA t L (.list (ps.map Prod.fst)) S none none) (ds := ps.map enP) ?_ q) rfl
  show R.ok (zipD (ps.map Prod.fst) (S.map encS)) _ = _
  rw [← hS, List.map_map, zip_map (Prod.fst : D × Sh → D) (encS ∘ Prod.snd)]
  rfl
theorem judge_no {t : T} {L : List Bx} {S : List Sh} (hF : F_shapes [.imm (encT t), .imm (szD L)] = .ret (.tmp (S.map encS)) [.imm (encT t), .imm (szD L)]) (ps qs : List (D × Sh)) (p : D × Sh) (hS : (ps ++ p :: qs).map Prod.snd = S) (hy : ∀ p ∈ ps, Yes t L p.1 p.2) (hn : No t L p.1 p.2) : F_are_shapes [.imm (encT t), .imm (szD L), .imm (.list ((ps ++ p :: qs).map Prod.fst))] = .ret (.imm (.bool false)) [.imm (encT t), .imm (szD L), .imm (.list ((ps ++ p :: qs).map Prod.fst))] := by
  obtain ⟨s', q, hI⟩ := for_pre (gg := gMany [3, 5]) (body := bEnt) enP (invA t L (.list ((ps ++ p :: qs).map Prod.fst)) S) (invA t L (.list ((ps ++ p :: qs).map Prod.fst)) S) (v := .imm (.bool false)) (d := enP p) (ds := qs.map enP) ps (stA t L (.list ((ps ++ p :: qs).map Prod.fst)) S none none) ⟨_, _, rfl, .inl rfl, .inl rfl⟩ (fun p hp s hs => ⟨_, _, inv_g hs, hy p hp _ _, inv_e⟩) (fun s hs => ⟨_, _, inv_g hs, hn _ _, inv_e⟩)
  obtain ⟨c, e, rfl, _, _⟩ := hI
  refine mkF_imm rfl (s := stA t L (.list ((ps ++ p :: qs).map Prod.fst)) S c e) (judge_head hF (by rw [← hS, List.length_map, List.length_map]) ?_) rfl
  refine seq_rt (for_is (s1 := stA t L (.list ((ps ++ p :: qs).map Prod.fst)) S none none) (ds := (ps ++ p :: qs).map enP) ?_ ?_)
  · show R.ok (zipD ((ps ++ p :: qs).map Prod.fst) (S.map encS)) _ = _
    rw [← hS, List.map_map (g := encS), zip_map (Prod.fst : D × Sh → D) (encS ∘ Prod.snd)]
    rfl
  · rw [List.map_append, List.map_cons]
    exact q
theorem judge_len {t : T} {L : List Bx} {S : List Sh} {A : List D} (hF : F_shapes [.imm (encT t), .imm (szD L)] = .ret (.tmp (S.map encS)) [.imm (encT t), .imm (szD L)]) (hl : A.length ≠ S.length) : F_are_shapes [.imm (encT t), .imm (szD L), .imm (.list A)] = .ret (.imm (.bool false)) [.imm (encT t), .imm (szD L), .imm (.list A)] := by
  let s1 : SD := stA t L (.list A) S none none
  refine mkF_imm rfl (s := s1) ?_ rfl
  refine seq_nx (s1 := s1) (setI_tmp (s1 := [some (.imm (encT t)), some (.imm (szD L)), some (.imm (.list A)), none, none, none, none]) (callF_tmp (rs := [.imm (encT t), .imm (szD L)]) rfl rfl rfl hF) rfl) ?_
  have e : hNe (.int A.length) (.int (S.map encS).length) = some (.val (.bool true)) := by
    rw [List.length_map]
    show some (PO.val (.bool !(decide _))) = _
    rw [decide_eq_false (by omega)]
    rfl
  exact seq_rt (ifS_t (s1 := s1) ((or_f (s1 := s1) rfl).trans (tr_ok (f2_val (r1 := .imm (.int A.length)) (r2 := .imm (.int (S.map encS).length)) rfl rfl rfl rfl e) rfl)) rfl)
theorem judge_kind {t : T} {L : List Bx} {S : List Sh} {x : D} (hF : F_shapes [.imm (encT t), .imm (szD L)] = .ret (.tmp (S.map encS)) [.imm (encT t), .imm (szD L)]) (h : hIs .list x = some (.val (.bool false))) : F_are_shapes [.imm (encT t), .imm (szD L), .imm x] = .ret (.imm (.bool false)) [.imm (encT t), .imm (szD L), .imm x] := by
  let s1 : SD := stA t L x S none none
  refine mkF_imm rfl (s := s1) ?_ rfl
  refine seq_nx (s1 := s1) (setI_tmp (s1 := [some (.imm (encT t)), some (.imm (szD L)), some (.imm x), none, none, none, none]) (callF_tmp (rs := [.imm (encT t), .imm (szD L)]) rfl rfl rfl hF) rfl) ?_
  exact seq_rt (ifS_t (s1 := s1) (or_t (not_f (tr_ok (f1_val (r1 := .imm x) rfl rfl h) rfl))) rfl)
end DLP
end

set_option Elab.async false
set_option linter.all false
set_option pp.maxSteps 300
set_option maxRecDepth 100000
set_option maxHeartbeats 4000000
noncomputable section
namespace DLP
open PySem PySem.Spec PyProof.Rows DL
/-! ### all lots -/
def lotsN : Nat → List (List Nat)
  | 0 => [[]]
  | r + 1 => lotsN r ++ (lotsN r).map (· ++ [r])
theorem lotsN_len : ∀ n, (lotsN n).length = 2 ^ n
  | 0 => rfl
  | r + 1 => by
    show (lotsN r ++ (lotsN r).map (· ++ [r])).length = _
    rw [List.length_append, List.length_map, lotsN_len r, Nat.pow_succ]
    omega
theorem lot_up {n : Nat} {l : List Nat} (h : Lot n l) : Lot (n + 1) l := ⟨h.1, fun r hr => Nat.lt_succ_of_lt (h.2 r hr)⟩
theorem lotsN_lot : ∀ (n : Nat) (l : List Nat), l ∈ lotsN n → Lot n l
  | 0, l, h => by
    rw [List.mem_singleton.mp h]
    exact ⟨.nil, fun r hr => by cases hr⟩
  | n + 1, l, h => by
    rcases List.mem_append.mp h with h | h
    · exact lot_up (lotsN_lot n l h)
    · obtain ⟨m, hm, rfl⟩ := List.mem_map.mp h
      have := lotsN_lot n m hm
      refine ⟨List.pairwise_append.mpr ⟨this.1, List.pairwise_singleton _ _, fun x hx y hy => ?_⟩, fun r hr => ?_⟩
      · rw [List.mem_singleton.mp hy]
        exact this.2 x hx
      · rcases List.mem_append.mp hr with hr | hr
        · exact Nat.lt_succ_of_lt (this.2 r hr)
        · rw [List.mem_singleton.mp hr]
          exact Nat.lt_succ_self n
theorem lotsN_all : ∀ (n : Nat) (l : List Nat), Lot n l → l ∈ lotsN n
  | 0, l, h => by
    cases l with
    | nil => exact List.mem_singleton.mpr rfl
    | cons x l => exact absurd (h.2 x (List.mem_cons_self ..)) (by omega)
  | n + 1, l, h => by
    rcases List.eq_nil_or_concat l with rfl | ⟨m, x, rfl⟩
    · exact List.mem_append_left _ (lotsN_all n [] ⟨.nil, fun r hr => by cases hr⟩)
    · rw [List.concat_eq_append] at *
      obtain ⟨h1, h2, h3⟩ := List.pairwise_append.mp h.1
      have hx := h.2 x (by simp)
      by_cases e : x = n
      · subst e
        exact List.mem_append_right _ (List.mem_map.mpr ⟨m, lotsN_all x m ⟨h1, fun r hr => h3 r hr x (by simp)⟩, rfl⟩)
      · refine List.mem_append_left _ (lotsN_all n _ ⟨h.1, fun r hr => ?_⟩)
        rcases List.mem_append.mp hr with hr' | hr'
        · have := h3 r hr' x (by simp)
          omega
        · rw [List.mem_singleton.mp hr']
          omega
/-! ### a dict of boxes -/
def kB (p : Bx) : List L2.Key := [Sum.inl p.1, Sum.inl p.2]
theorem unT_bx (p : Bx) : unT (bxD p) = some (kB p) := rfl
theorem kB_inj {p q : Bx} : kB p = kB q ↔ p = q := by
  constructor
  · intro h
    obtain ⟨a, b⟩ := p
    obtain ⟨c, d⟩ := q
    unfold kB at h
    injection h with h1 h2
    injection h2 with h2 _
    injection h1 with h1
    injection h2 with h2
    dsimp only at h1 h2
    rw [h1, h2]
  · rintro rfl
    rfl
theorem any_val (k : List L2.Key) : ∀ ks : List (D × D), ks.any (fun e => decide (unT e.1 = some k)) = (valT ks k).isSome
  | [] => rfl
  | e :: ks => by
    have ih := any_val k ks
    unfold valT at ih ⊢
    rw [List.any_cons, ih, List.find?_cons]
    by_cases h : unT e.1 = some k
    · rw [decide_eq_true h]
      rfl
    · rw [decide_eq_false h]
      rfl
theorem val_map (k k' : List L2.Key) (d : D) : ∀ ks : List (D × D), (valT ks k).isSome = true → valT (ks.map fun e => if unT e.1 = some k then (e.1, d) else e) k' = if k' = k then some d else valT ks k'
  | [], h => by cases h
  | e :: ks, h => by
    unfold valT at *
    rw [List.map_cons, List.find?_cons, List.find?_cons]
    rw [List.find?_cons] at h
    by_cases h1 : unT e.1 = some k
    · rw [if_pos h1]
      dsimp only
      by_cases h2 : k' = k
      · rw [if_pos h2, h2, decide_eq_true h1]
        rfl
      · have h3 : ¬ unT e.1 = some k' := fun z => h2 (by rw [h1] at z; cases z; rfl)
        rw [if_neg h2, decide_eq_false h3]
        dsimp only
        by_cases h4 : (valT ks k).isSome = true
        · have := val_map k k' d ks h4
          rw [if_neg h2] at this
          exact this
        · have : ks.map (fun e => if unT e.1 = some k then (e.1, d) else e) = ks := by
            refine (List.map_congr_left fun e' he => ?_).trans (List.map_id _)
            have q := any_val k ks
            rw [Bool.not_eq_true] at h4
            rw [h4] at q
            have := List.any_eq_false.mp q e' he
            rw [if_neg (by simpa using this)]
            rfl
          rw [this]
    · rw [if_neg h1]
      rw [decide_eq_false h1] at h
      have ih := val_map k k' d ks h
      unfold valT at ih
      by_cases h3 : unT e.1 = some k'
      · have h2 : k' ≠ k := fun z => h1 (by rw [← z]; exact h3)
        rw [decide_eq_true h3, if_neg h2]
      · rw [decide_eq_false h3]
        exact ih
theorem val_put (ks : List (D × D)) (k k' : List L2.Key) (d : D) : valT (putT ks k d) k' = if k' = k then some d else valT ks k' := by
  unfold putT
  rw [any_val]
  by_cases h : (valT ks k).isSome = true
  · rw [if_pos h, val_map k k' d ks h]
  · rw [if_neg h]
    have h' : valT ks k = none := by
      cases e : valT ks k with
      | none => rfl
      | some _ => rw [e] at h; exact absurd rfl h
    unfold valT at *
    rw [List.find?_append]
    by_cases h2 : k' = k
    · subst h2
      rw [if_pos rfl]
      have : ks.find? (fun e => decide (unT e.1 = some k')) = none := by
        cases e : ks.find? (fun e => decide (unT e.1 = some k')) with
        | none => rfl
        | some _ => rw [e] at h'; cases h'
      rw [this, Option.none_or]
      rw [List.find?_cons, unT_key, decide_eq_true rfl]
      rfl
    · rw [if_neg h2]
      have : List.find? (fun e : D × D => decide (unT e.1 = some k')) [(.tuple (k.map keyD), d)] = none := by
        rw [List.find?_cons, unT_key, decide_eq_false (fun z => h2 (by cases z; rfl))]
        rfl
      rw [this, Option.or_none]
theorem key_put (ks : List (D × D)) (p : Bx) (d : D) : (putT ks (kB p) d).map Prod.fst = if (valT ks (kB p)).isSome = true then ks.map Prod.fst else ks.map Prod.fst ++ [bxD p] := by
  unfold putT
  rw [any_val]
  by_cases h : (valT ks (kB p)).isSome = true
  · rw [if_pos h, if_pos h, List.map_map]
    refine List.map_congr_left fun e he => ?_
    show (if unT e.1 = some (kB p) then (e.1, d) else e).1 = e.1
    split <;> rfl
  · rw [if_neg h, if_neg h, List.map_append]
    rfl
theorem isKd_of {ks : List (D × D)} {ps : List Bx} (h : ks.map Prod.fst = ps.map bxD) : isKd ks = false := by
  unfold isKd
  split
  · cases ps with
    | nil => cases h
    | cons p ps =>
      rw [List.map_cons, List.map_cons] at h
      injection h with h1 _
      cases h1
  · rfl
/-- what the dict holds behind the first lots -/
structure DI (f : List Nat → Bx) (pre : List (List Nat)) (ks : List (D × D)) : Prop where
  val : ∀ p, valT ks (kB p) = if (pre.filter fun l => decide (f l = p)) = [] then none else some (.list ((pre.filter fun l => decide (f l = p)).map lotD))
  key : ∃ ps : List Bx, ks.map Prod.fst = ps.map bxD ∧ ps.Nodup ∧ ∀ p, p ∈ ps ↔ ∃ l ∈ pre, f l = p
  len : ks.length ≤ pre.length
theorem di_nil (f : List Nat → Bx) : DI f [] [] := ⟨fun p => rfl, ⟨[], rfl, .nil, fun p => by simp⟩, Nat.le_refl _⟩
theorem di_put {f : List Nat → Bx} {pre : List (List Nat)} {ks : List (D × D)} (h : DI f pre ks) (l : List Nat) : DI f (pre ++ [l]) (putT ks (kB (f l)) (.list ((pre.filter fun m => decide (f m = f l)).map lotD ++ [lotD l]))) := by
  obtain ⟨ps, h1, h2, h3⟩ := h.key
  have some_iff : (valT ks (kB (f l))).isSome = true ↔ f l ∈ ps := by
    rw [h.val, h3]
    constructor
    · intro z
      split at z
      · cases z
      · rename_i c
        obtain ⟨m, hm⟩ := List.exists_mem_of_ne_nil _ c
        rw [List.mem_filter, decide_eq_true_eq] at hm
        exact ⟨m, hm.1, hm.2⟩
    · rintro ⟨m, hm, e⟩
      rw [if_neg (List.ne_nil_of_mem (List.mem_filter.mpr ⟨hm, decide_eq_true e⟩))]
      rfl
  refine ⟨fun p => ?_, ?_, ?_⟩
  · rw [val_put, List.filter_append]
    by_cases e : p = f l
    · subst e
      have : List.filter (fun m => decide (f m = f l)) [l] = [l] := List.filter_cons_of_pos (decide_eq_true rfl)
      rw [if_pos rfl, this, if_neg (by simp), List.map_append]
      rfl
    · have : List.filter (fun m => decide (f m = p)) [l] = [] := List.filter_cons_of_neg (by simpa using fun z => e z.symm)
      rw [if_neg (fun z => e (kB_inj.mp z)), this, List.append_nil]
      exact h.val p
  · rw [key_put]
    by_cases c : f l ∈ ps
    · rw [if_pos (some_iff.mpr c)]
      refine ⟨ps, h1, h2, fun p => ?_⟩
      rw [h3]
      constructor
      · rintro ⟨m, hm, e⟩
        exact ⟨m, List.mem_append_left _ hm, e⟩
      · rintro ⟨m, hm, e⟩
        rcases List.mem_append.mp hm with hm | hm
        · exact ⟨m, hm, e⟩
        · rw [List.mem_singleton.mp hm] at e
          rw [← h3, ← e]
          exact c
    · rw [if_neg (fun z => c (some_iff.mp z))]
      refine ⟨ps ++ [f l], by rw [h1, List.map_append]; rfl, List.nodup_append.mpr ⟨h2, List.nodup_cons.mpr ⟨by simp, .nil⟩, fun x hx y hy => ?_⟩, fun p => ?_⟩
      · rw [List.mem_singleton.mp hy]
        exact fun z => c (by rw [← z]; exact hx)
      · rw [List.mem_append, h3, List.mem_singleton]
        constructor
        · rintro (⟨m, hm, e⟩ | rfl)
          · exact ⟨m, List.mem_append_left _ hm, e⟩
          · exact ⟨l, by simp, rfl⟩
        · rintro ⟨m, hm, e⟩
          rcases List.mem_append.mp hm with hm | hm
          · exact .inl ⟨m, hm, e⟩
          · rw [List.mem_singleton.mp hm] at e
            exact .inr e.symm
  · have := h.len
    have hl : (putT ks (kB (f l)) (.list ((pre.filter fun m => decide (f m = f l)).map lotD ++ [lotD l]))).length ≤ ks.length + 1 := by
      unfold putT
      split
      · rw [List.length_map]
        omega
      · rw [List.length_append]
        exact Nat.le_refl _
    rw [List.length_append]
    exact Nat.le_trans hl (Nat.succ_le_succ this)
end DLP
end

set_option Elab.async false
set_option linter.all false
set_option pp.maxSteps 300
set_option maxRecDepth 100000
set_option maxHeartbeats 4000000
noncomputable section
namespace DLP
open PySem PySem.Spec PyProof.Rows DL
/-! ### the law's own boxes -/
theorem add_list {xs ys : List D} (h : xs.length + ys.length ≤ mx) : hAdd (.list xs) (.list ys) = some (.lst (xs ++ ys)) := if_pos h
theorem addT_ok {e e2 : FE} {s s1 s2 : SD} {l m : List Nat} (ha : e s = .ok (.imm (lotD l)) s1) (hb : e2 s1 = .ok (.imm (lotD m)) s2) (h : l.length + m.length ≤ mx) : f2 hAdd e e2 s = .ok (.imm (lotD (l ++ m))) s2 := by
  rcases add_lot h with e1 | ⟨ds, e1, e3⟩
  · exact f2_ok ha hb rfl rfl e1
  · refine (f2_ok ha hb rfl rfl e1).trans ?_
    rw [← e3]
    rfl
theorem subD_nx {f fi : FE} {i : Nat} {s s1 s2 : SD} {d k : D} {ks ks2 : List (D × D)} {kk : List L2.Key} (hf : fI f s = .ok (.imm d) s1) (hv : view s1 (.slot i) = some (.dict ks2)) (hk : fi s1 = .ok (.imm k) s2) (hs : getS s2 i = some (some (.dct ks))) (h1 : isKd ks = false) (h2 : unT k = some kk) (h3 : ks.length < mx) : fSubD i fi f s = .nx (setS s2 i (some (.dct (putT ks kk d)))) := by
  unfold fSubD R.stm
  rw [hf]
  dsimp only
  rw [hv]
  dsimp only
  rw [hk]
  dsimp only
  rw [hs]
  dsimp only
  rw [if_neg (by rw [h1]; exact Bool.false_ne_true), h2]
  dsimp only
  rw [if_pos h3]
theorem mkF_tmpd {m n : Nat} {body : FS} {as as' : List AV} {s : SD} {ks : List (D × D)} (hl : as.length = m) (h : body (s0 as n) = .rt (.tmpd ks) s) (ho : outA as s = some as') : mkF m n body as = .ret (.tmpd ks) as' := by
  unfold mkF
  rw [if_pos hl, h]
  dsimp only
  rw [ho]
def bLots : FS := fSetI 3 (f2 hAdd (fName 3) (fLc (fIt (fName 3)) [2] (gOne 2) fYes (fI (f2 hAdd (fName 2) (fTup (faCons (fName 4) faNil))))))
def bDict : FS := (fSeq (fSetI 5 (fCallF (F__law_box 12) (faCons (fName 0) (faCons (fName 1) (faCons (fName 2) faNil))))) (fSubD 6 (fName 5) (f2 hAdd (fIf (fTr (f2 (hDIn false) (fName 5) (fName 6))) (f2 hDIx (fName 6) (fName 5)) (fLst faNil)) (fLst (faCons (fName 2) faNil)))))
def stL (T Z : D) (c2 : Option DV) (ls : List (List Nat)) (c4 c5 : Option DV) (ks : List (D × D)) : SD := [some (.imm T), some (.imm Z), c2, some (.imm (.list (ls.map lotD))), c4, c5, some (.dct ks)]
theorem lots_step {T Z : D} {k : Nat} (hk : k < 7) : bLots (stL T Z none (lotsN k) (some (.imm (.int k))) none []) = .nx (stL T Z none (lotsN (k + 1)) (some (.imm (.int k))) none []) := by
  have h128 : (lotsN k).length ≤ 64 := by
    rw [lotsN_len]
    exact Nat.pow_le_pow_right (by decide : 0 < 2) (by omega : k ≤ 6)
  let s1 : SD := stL T Z none (lotsN k) (some (.imm (.int k))) none []
  have q := loopC_mapE (gg := gOne 2) (cond := fYes) (elt := fI (f2 hAdd (fName 2) (fTup (faCons (fName 4) faNil)))) (vs := [2]) (s := s1) lotD (fun l => lotD (l ++ [k])) (lotsN k) [] (fun l hl => by
    let s2 : SD := stL T Z (some (.imm (lotD l))) (lotsN k) (some (.imm (.int k))) none []
    refine ⟨s2, s2, s2, rfl, rfl, fI_imm (addT_ok (s1 := s2) (m := [k]) rfl rfl ?_), rfl⟩
    have := asc_len (lotsN_lot k l hl)
    exact mx_of (by rw [List.length_singleton]; omega)) (by rw [List.length_nil, Nat.zero_add]; exact mx_of (by omega))
  have lc := lc_ok (it := fIt (fName 3)) (s := s1) (s1 := s1) (s2 := s1) (s3 := s1) (it_list rfl) rfl q rfl
  refine setI_tmp (s1 := s1) (xs := (lotsN (k + 1)).map lotD) ?_ rfl
  refine (f2_ok (r1 := .imm (.list ((lotsN k).map lotD))) (s1 := s1) rfl lc rfl rfl (add_list (mx_of ?_))).trans ?_
  · rw [List.nil_append, List.length_map, List.length_map]
    omega
  · show R.ok (RV.tmp _) s1 = _
    rw [List.nil_append, show lotsN (k + 1) = lotsN k ++ (lotsN k).map (· ++ [k]) from rfl, List.map_append, List.map_map]
    rfl
theorem lots_loop {T Z : D} : ∀ (m k : Nat) (c : Option DV), (c = none ∨ ∃ d, c = some (.imm d)) → k + m ≤ 7 → ∃ c', loopF (gOne 4) bLots ((List.range' k m).map natD) (stL T Z none (lotsN k) c none []) = .nx (stL T Z none (lotsN (k + m)) c' none [])
  | 0, k, c, _, _ => ⟨c, rfl⟩
  | m + 1, k, c, hc, h => by
    obtain ⟨c', q⟩ := lots_loop (T := T) (Z := Z) m (k + 1) (some (.imm (.int k))) (.inr ⟨_, rfl⟩) (by omega)
    have hg : gOne 4 (natD k) (stL T Z none (lotsN k) c none []) = some (stL T Z none (lotsN k) (some (.imm (.int k))) none []) := by
      rcases hc with rfl | ⟨d, rfl⟩ <;> rfl
    refine ⟨c', ?_⟩
    rw [List.range'_succ, List.map_cons]
    unfold loopF
    rw [hg]
    dsimp only
    rw [lots_step (by omega)]
    dsimp only
    rw [q, show k + 1 + m = k + (m + 1) by omega]
theorem ix_dict {ks : List (D × D)} {p : Bx} {d : D} (h : valT ks (kB p) = some d) : hDIx (.dict ks) (bxD p) = some (.val d) := by
  show (valT ks (kB p)).map PO.val = _
  rw [h]
  rfl
theorem in_dict {ks : List (D × D)} {p : Bx} (h : isKd ks = false) : hDIn false (bxD p) (.dict ks) = some (.val (.bool (valT ks (kB p)).isSome)) := by
  show (if isKd ks = true then _ else _) = _
  rw [if_neg (by rw [h]; exact Bool.false_ne_true)]
  rfl
section
variable {t : T} {n : Nat} {L : List Bx} {sz : Nat → Bx} (ht : TOk t n) (hs : ∀ r < n, L[r]? = some (sz r))
/-- the box of a lot -/
def fb (sz : Nat → Bx) (t : T) (l : List Nat) : Bx := boxT sz (fun r => decide (r ∈ l)) t
include ht hs
theorem dict_step {c4 c5 : Option DV} {ls pre : List (List Nat)} {ks : List (D × D)} {l : List Nat} (hc5 : c5 = none ∨ ∃ d, c5 = some (.imm d)) (h : DI (fb sz t) pre ks) (hp : pre.length ≤ 500) : bDict (stL (encT t) (szD L) (some (.imm (lotD l))) ls c4 c5 ks) = .nx (stL (encT t) (szD L) (some (.imm (lotD l))) ls c4 (some (.imm (bxD (fb sz t l)))) (putT ks (kB (fb sz t l)) (.list ((pre.filter fun m => decide (fb sz t m = fb sz t l)).map lotD ++ [lotD l])))) := by
  obtain ⟨ps, h1, _, _⟩ := h.key
  have hk : isKd ks = false := isKd_of h1
  let S0 : SD := stL (encT t) (szD L) (some (.imm (lotD l))) ls c4 c5 ks
  let S : SD := stL (encT t) (szD L) (some (.imm (lotD l))) ls c4 (some (.imm (bxD (fb sz t l)))) ks
  have b := box_ok (L := L) (sz := sz) (l := l) 12 t ht.dp (fun r hr => hs r (by rw [ht.rm, List.mem_range] at hr; exact hr))
  have e0 : fSetI 5 (fCallF (F__law_box 12) (faCons (fName 0) (faCons (fName 1) (faCons (fName 2) faNil)))) S0 = .nx S := by
    refine setI_nx (s1 := S0) (callF_imm (rs := [.imm (encT t), .imm (szD L), .imm (lotD l)]) rfl rfl rfl b) ?_
    rcases hc5 with rfl | ⟨d, rfl⟩ <;> rfl
  refine seq_nx e0 ?_
  have fl : (pre.filter fun m => decide (fb sz t m = fb sz t l)).length ≤ 500 := Nat.le_trans (List.length_filter_le _ _) hp
  have hv := h.val (fb sz t l)
  have ev : f2 hAdd (fIf (fTr (f2 (hDIn false) (fName 5) (fName 6))) (f2 hDIx (fName 6) (fName 5)) (fLst faNil)) (fLst (faCons (fName 2) faNil)) S = .ok (.tmp ((pre.filter fun m => decide (fb sz t m = fb sz t l)).map lotD ++ [lotD l])) S := by
    have ein : f2 (hDIn false) (fName 5) (fName 6) S = .ok (.imm (.bool (valT ks (kB (fb sz t l))).isSome)) S := f2_val (s1 := S) (r1 := .imm (bxD (fb sz t l))) (r2 := .slot 6) rfl rfl rfl rfl (in_dict hk)
    have eit : ∃ r, fIf (fTr (f2 (hDIn false) (fName 5) (fName 6))) (f2 hDIx (fName 6) (fName 5)) (fLst faNil) S = .ok r S ∧ view S r = some (.list ((pre.filter fun m => decide (fb sz t m = fb sz t l)).map lotD)) := by
      unfold fIf
      rw [tr_ok ein rfl, rbind_ok]
      by_cases c : (pre.filter fun m => decide (fb sz t m = fb sz t l)) = []
      · rw [if_pos c] at hv
        rw [hv, c]
        exact ⟨_, rfl, rfl⟩
      · rw [if_neg c] at hv
        rw [hv]
        exact ⟨_, f2_val (s1 := S) (r1 := .slot 6) (r2 := .imm (bxD (fb sz t l))) rfl rfl rfl rfl (ix_dict hv), rfl⟩
    obtain ⟨r, e1, e2⟩ := eit
    exact f2_ok (r2 := .tmp [lotD l]) (o := .lst ((pre.filter fun m => decide (fb sz t m = fb sz t l)).map lotD ++ [lotD l])) e1 rfl e2 rfl (add_list (mx_of (by rw [List.length_map, List.length_singleton]; omega)))
  exact subD_nx (s1 := S) (s2 := S) (k := bxD (fb sz t l)) (fI_tmp ev) rfl rfl rfl hk rfl (Nat.lt_of_le_of_lt h.len (by have : mx = 16000000 := rfl; omega))
theorem dict_loop : ∀ (ls pre : List (List Nat)) (ks : List (D × D)) (c2 c4 c5 : Option DV) (all : List (List Nat)), (c2 = none ∨ ∃ d, c2 = some (.imm d)) → (c5 = none ∨ ∃ d, c5 = some (.imm d)) → DI (fb sz t) pre ks → pre.length + ls.length ≤ 500 → ∃ c2' c5' ks', loopF (gOne 2) bDict (ls.map lotD) (stL (encT t) (szD L) c2 all c4 c5 ks) = .nx (stL (encT t) (szD L) c2' all c4 c5' ks') ∧ DI (fb sz t) (pre ++ ls) ks'
  | [], pre, ks, c2, c4, c5, all, _, _, h, _ => ⟨c2, c5, ks, rfl, by rw [List.append_nil]; exact h⟩
  | l :: ls, pre, ks, c2, c4, c5, all, h2, h5, h, hl => by
    rw [List.length_cons] at hl
    obtain ⟨c2', c5', ks', q, d⟩ := dict_loop ls (pre ++ [l]) _ (some (.imm (lotD l))) c4 (some (.imm (bxD (fb sz t l)))) all (.inr ⟨_, rfl⟩) (.inr ⟨_, rfl⟩) (di_put h l) (by rw [List.length_append, List.length_singleton]; omega)
    have hg : gOne 2 (lotD l) (stL (encT t) (szD L) c2 all c4 c5 ks) = some (stL (encT t) (szD L) (some (.imm (lotD l))) all c4 c5 ks) := by
      rcases h2 with rfl | ⟨d, rfl⟩ <;> rfl
    refine ⟨c2', c5', ks', ?_, by rw [List.append_assoc] at d; exact d⟩
    rw [List.map_cons]
    unfold loopF
    rw [hg]
    dsimp only
    rw [dict_step ht hs h5 h (by omega)]
    exact q
theorem all_ok (hL : L.length = n) : ∃ ks, DI (fb sz t) (lotsN n) ks ∧ F__law_all_boxes [.imm (encT t), .imm (szD L)] = .ret (.tmpd ks) [.imm (encT t), .imm (szD L)] := by
  have n7 := ht.n7
  obtain ⟨c', q1⟩ := lots_loop (T := encT t) (Z := szD L) n 0 none (.inl rfl) (by omega)
  rw [Nat.zero_add] at q1
  have hn : (lotsN n).length ≤ 128 := by
    rw [lotsN_len]
    exact Nat.pow_le_pow_right (by decide : 0 < 2) n7
  obtain ⟨c2', c5', ks', q2, d⟩ := dict_loop ht hs (lotsN n) [] [] none c' none (lotsN n) (.inl rfl) (.inl rfl) (di_nil _) (by rw [List.length_nil]; omega)
  refine ⟨ks', d, ?_⟩
  have eL : (L.map bxD).length = n := by rw [List.length_map, hL]
  let s1 : SD := stL (encT t) (szD L) none (lotsN 0) none none []
  have e1 : fRng1 (faCons (fCall hLen (faCons (fName 1) faNil)) faNil) s1 = .ok ((List.range' 0 n).map natD) s1 := by
    rw [← rgFrom_map]
    refine rng1_ok ?_ (mx_of (by omega))
    refine (cons_ok (call_val (s1 := s1) (rs := [.imm (szD L)]) (x := .int (L.map bxD).length) rfl rfl rfl) rfl).trans ?_
    rw [eL]
  refine mkF_tmpd rfl (s := [some (.imm (encT t)), some (.imm (szD L)), c2', some (.imm (.list ((lotsN n).map lotD))), c', c5', none]) ?_ rfl
  refine seq_nx (s1 := s1) rfl ?_
  refine seq_nx (for_is e1 q1) ?_
  refine seq_nx (for_is (s1 := stL (encT t) (szD L) none (lotsN n) c' none []) (it_list rfl) q2) ?_
  rfl
end
end DLP
end

set_option Elab.async false
set_option linter.all false
set_option pp.maxSteps 300
set_option maxRecDepth 100000
set_option maxHeartbeats 4000000
noncomputable section
namespace DLP
open PySem PySem.Spec PyProof.Rows DL
/-! ### the least boxes -/
def lxB (p q : Bx) : Prop := p.1 < q.1 ∨ (p.1 = q.1 ∧ p.2 ≤ q.2)
theorem leB (p q : Bx) : leD (bxD p) (bxD q) = !decide (q.1 < p.1 ∨ (q.1 = p.1 ∧ q.2 < p.2)) := by
  unfold leD bxD
  rw [PySem.W.dataLt_ii]
def srtB (ps : List Bx) : List Bx := sortB (fun x y => leD (bxD x) (bxD y)) ps
theorem srtB_pw (ps : List Bx) : (srtB ps).Pairwise lxB := sortB_pw (le := fun x y => leD (bxD x) (bxD y)) (fun x y h => by
    rw [leB] at h
    simp only [Bool.not_eq_true', decide_eq_false_iff_not] at h
    unfold lxB
    omega) (fun x y h => by
    rw [leB] at h
    simp only [Bool.not_eq_false', decide_eq_true_eq] at h
    unfold lxB
    omega) (fun x y z h h2 => by
    unfold lxB at *
    omega) ps
theorem okS_B {ps : List Bx} (h : ps.length ≤ mx) : okS (ps.map bxD) = true := by
  unfold okS alikeB
  rw [Bool.and_eq_true, Bool.and_eq_true, Bool.and_eq_true, decide_eq_true_eq, List.length_map]
  refine ⟨⟨⟨List.all_eq_true.mpr fun d hd => List.all_eq_true.mpr fun e he => ?_, ?_⟩, List.all_eq_true.mpr fun d hd => ?_⟩, h⟩
  · obtain ⟨x, _, rfl⟩ := List.mem_map.mp hd
    obtain ⟨y, _, rfl⟩ := List.mem_map.mp he
    rfl
  · rw [Bool.or_eq_true]
    refine .inl (List.all_eq_true.mpr fun d hd => ?_)
    obtain ⟨x, _, rfl⟩ := List.mem_map.mp hd
    rfl
  · obtain ⟨x, _, rfl⟩ := List.mem_map.mp hd
    rfl
def beat (q p : Bx) : Bool := decide (q ≠ p) && (decide (q.1 ≤ p.1) && decide (q.2 ≤ p.2))
def kept (ps : List Bx) (p : Bx) : Bool := !(ps.any fun q => beat q p)
theorem beat_iff {q p : Bx} : beat q p = true ↔ q ≠ p ∧ le2 q p := by
  unfold beat le2
  simp only [Bool.and_eq_true, decide_eq_true_eq]
theorem least_dom (ps : List Bx) : ∀ (m : Nat) (p : Bx), p ∈ ps → (∀ q ∈ ps, 0 ≤ q.1 ∧ 0 ≤ q.2) → (p.1 + p.2).toNat ≤ m → ∃ q ∈ ps, kept ps q = true ∧ le2 q p
  | m, p, hp, h0, hm => by
    cases hk : kept ps p with
    | true => exact ⟨p, hp, hk, le2_refl p⟩
    | false =>
      unfold kept at hk
      rw [Bool.not_eq_false', List.any_eq_true] at hk
      obtain ⟨q, hq, hb⟩ := hk
      obtain ⟨h1, h2, h3⟩ := beat_iff.mp hb
      have hq0 := h0 q hq
      have lt : q.1 + q.2 < p.1 + p.2 := by
        rcases Int.lt_or_le (q.1 + q.2) (p.1 + p.2) with c | c
        · exact c
        · exact absurd (le2_anti ⟨h2, h3⟩ ⟨by omega, by omega⟩) h1
      match m with
      | 0 => omega
      | m + 1 =>
        obtain ⟨r, hr, h4, h5⟩ := least_dom ps m q hq h0 (by omega)
        exact ⟨r, hr, h4, le2_trans h5 ⟨h2, h3⟩⟩
theorem least_fr {ps : List Bx} (hn : ps.Nodup) (h0 : ∀ q ∈ ps, 0 ≤ q.1 ∧ 0 ≤ q.2) : Fr (· ∈ ps) ((srtB ps).filter (kept ps)) where
  asc := by
    have h1 := (srtB_pw ps).and (show (srtB ps).Nodup from sortB_nd hn)
    refine List.Pairwise.imp_of_mem ?_ (h1.filter (kept ps))
    intro p q hp hq h
    obtain ⟨h2, h3⟩ := h
    have kp := (List.mem_filter.mp hp).2
    have kq := (List.mem_filter.mp hq).2
    have mp : p ∈ ps := sortB_mem.mp (List.mem_filter.mp hp).1
    have mq : q ∈ ps := sortB_mem.mp (List.mem_filter.mp hq).1
    have nb : ¬ le2 p q := fun z => by
      have : (ps.any fun r => beat r q) = true := List.any_eq_true.mpr ⟨p, mp, beat_iff.mpr ⟨h3, z⟩⟩
      unfold kept at kq
      rw [this] at kq
      cases kq
    unfold le2 at nb
    unfold lxB at h2
    omega
  sub p hp := sortB_mem.mp (List.mem_filter.mp hp).1
  dom p hp := by
    obtain ⟨q, hq, h1, h2⟩ := least_dom ps _ p hp h0 (Nat.le_refl _)
    exact ⟨q, List.mem_filter.mpr ⟨sortB_mem.mpr hq, h1⟩, h2⟩
/-! ### the walk -/
def bLeast : FS := (fIfS (fNot (fTr (fCall hAny (faCons (fLc (fItD (fName 0)) [1] (gOne 1) fYes (fAndV (f2 hNe (fName 1) (fName 2)) (fAndV (f2 hLe (f2 hIx (fName 1) (fImm (.int 0))) (f2 hIx (fName 2) (fImm (.int 0)))) (f2 hLe (f2 hIx (fName 1) (fImm (.int 1))) (f2 hIx (fName 2) (fImm (.int 1))))))) faNil)))) (fApp 3 (fName 2)) fNx)
theorem bx0 (p : Bx) : hIx (bxD p) (.int 0) = some (.val (.int p.1)) := rfl
theorem bx1 (p : Bx) : hIx (bxD p) (.int 1) = some (.val (.int p.2)) := rfl
theorem hAny_map {α : Type} (p : α → Bool) (l : List α) : hAny [.list (l.map fun x => .bool (p x))] = some (.val (.bool (l.any p))) := by
  show (asBools _).map _ = _
  rw [asBools_map]
  show some (PO.val (.bool ((l.map p).any id))) = _
  rw [List.any_map]
  rfl
theorem beat_ok {A C : Option DV} (q p : Bx) : (fAndV (f2 hNe (fName 1) (fName 2)) (fAndV (f2 hLe (f2 hIx (fName 1) (fImm (.int 0))) (f2 hIx (fName 2) (fImm (.int 0)))) (f2 hLe (f2 hIx (fName 1) (fImm (.int 1))) (f2 hIx (fName 2) (fImm (.int 1)))))) [A, some (.imm (bxD q)), some (.imm (bxD p)), C] = .ok (.imm (.bool (beat q p))) [A, some (.imm (bxD q)), some (.imm (bxD p)), C] := by
  unfold beat
  by_cases h1 : q = p
  · have e1 : (!decide (q = p)) = false := by rw [decide_eq_true h1]; rfl
    have e2 : decide (q ≠ p) = false := decide_eq_false fun z => z h1
    simp only [mkF, s0, av1, List.length_cons, List.length_nil, List.map_cons, List.map_nil, List.replicate, List.cons_append, List.nil_append, fSeq, fSetI, fSetO, fI, fCallF, faCons, faNil, fName, g0, gs, z0, zs, R.bind, R.stm, toAVs, slotsOf, toImm, setD, fIfS, fOr, fAnd, fNot, fTr, asB, Bool.not_true, Bool.not_false, fChain, fImm, fcLink, fcLast, view, hLe, hLt, hGe, hGt, hCmp, fCall, views, hLen, oR, poR, fNx, fRet, f1, f2, outA, Option.map, if_true, fSub, fPar, setM, setC, Option.map_some, hAdd, hSub, hInt, fDrop, fAndV, fOrV, fNotV, fLst, fTup, allImm, fTgt, fRetN, fBk, fCt, fRaise0, Option.bind_some, fIf, gOne, gMany, setsD, fPar2, isSlot, Bool.false_eq_true, if_false, fApp, Option.some.injEq, Bool.or_self, Bool.or_false, Bool.false_or, mx0, mx1, mx2, mx3, ne_bx, e1, e2, Bool.false_and]
  · have e1 : (!decide (q = p)) = true := by rw [decide_eq_false h1]; rfl
    have e2 : decide (q ≠ p) = true := decide_eq_true h1
    by_cases h2 : q.1 ≤ p.1
    · have e3 : decide (q.1 ≤ p.1) = true := decide_eq_true h2
      simp only [mkF, s0, av1, List.length_cons, List.length_nil, List.map_cons, List.map_nil, List.replicate, List.cons_append, List.nil_append, fSeq, fSetI, fSetO, fI, fCallF, faCons, faNil, fName, g0, gs, z0, zs, R.bind, R.stm, toAVs, slotsOf, toImm, setD, fIfS, fOr, fAnd, fNot, fTr, asB, Bool.not_true, Bool.not_false, fChain, fImm, fcLink, fcLast, view, hLe, hLt, hGe, hGt, hCmp, fCall, views, hLen, oR, poR, fNx, fRet, f1, f2, outA, Option.map, if_true, fSub, fPar, setM, setC, Option.map_some, hAdd, hSub, hInt, fDrop, fAndV, fOrV, fNotV, fLst, fTup, allImm, fTgt, fRetN, fBk, fCt, fRaise0, Option.bind_some, fIf, gOne, gMany, setsD, fPar2, isSlot, Bool.false_eq_true, if_false, fApp, Option.some.injEq, Bool.or_self, Bool.or_false, Bool.false_or, mx0, mx1, mx2, mx3, ne_bx, e1, e2, bx0, bx1, e3, Bool.true_and]
    · have e3 : decide (q.1 ≤ p.1) = false := decide_eq_false h2
      simp only [mkF, s0, av1, List.length_cons, List.length_nil, List.map_cons, List.map_nil, List.replicate, List.cons_append, List.nil_append, fSeq, fSetI, fSetO, fI, fCallF, faCons, faNil, fName, g0, gs, z0, zs, R.bind, R.stm, toAVs, slotsOf, toImm, setD, fIfS, fOr, fAnd, fNot, fTr, asB, Bool.not_true, Bool.not_false, fChain, fImm, fcLink, fcLast, view, hLe, hLt, hGe, hGt, hCmp, fCall, views, hLen, oR, poR, fNx, fRet, f1, f2, outA, Option.map, if_true, fSub, fPar, setM, setC, Option.map_some, hAdd, hSub, hInt, fDrop, fAndV, fOrV, fNotV, fLst, fTup, allImm, fTgt, fRetN, fBk, fCt, fRaise0, Option.bind_some, fIf, gOne, gMany, setsD, fPar2, isSlot, Bool.false_eq_true, if_false, fApp, Option.some.injEq, Bool.or_self, Bool.or_false, Bool.false_or, mx0, mx1, mx2, mx3, ne_bx, e1, e2, bx0, bx1, e3, Bool.true_and, Bool.false_and]
section
variable {ks : List (D × D)} {ps : List Bx} (hk : ks.map Prod.fst = ps.map bxD) (hl : ps.length ≤ mx)
include hk hl
theorem least_any (p : Bx) (acc : List Bx) : fCall hAny (faCons (fLc (fItD (fName 0)) [1] (gOne 1) fYes (fAndV (f2 hNe (fName 1) (fName 2)) (fAndV (f2 hLe (f2 hIx (fName 1) (fImm (.int 0))) (f2 hIx (fName 2) (fImm (.int 0)))) (f2 hLe (f2 hIx (fName 1) (fImm (.int 1))) (f2 hIx (fName 2) (fImm (.int 1))))))) faNil) [some (.imm (.dict ks)), none, some (.imm (bxD p)), some (.own (acc.map bxD))] = .ok (.imm (.bool (ps.any fun q => beat q p))) [some (.imm (.dict ks)), none, some (.imm (bxD p)), some (.own (acc.map bxD))] := by
  let s1 : SD := [some (.imm (.dict ks)), none, some (.imm (bxD p)), some (.own (acc.map bxD))]
  have q := loopC_mapE (gg := gOne 1) (cond := fYes) (elt := (fAndV (f2 hNe (fName 1) (fName 2)) (fAndV (f2 hLe (f2 hIx (fName 1) (fImm (.int 0))) (f2 hIx (fName 2) (fImm (.int 0)))) (f2 hLe (f2 hIx (fName 1) (fImm (.int 1))) (f2 hIx (fName 2) (fImm (.int 1))))))) (vs := [1]) (s := s1) bxD (fun q => .bool (beat q p)) ps [] (fun q hq => ⟨_, _, _, rfl, rfl, beat_ok q p, rfl⟩) (by rw [List.length_nil, Nat.zero_add]; exact hl)
  have ei : fItD (fName 0) s1 = .ok (ps.map bxD) s1 := by
    show (if isKd ks = true then _ else _) = _
    rw [if_neg (by rw [isKd_of hk]; exact Bool.false_ne_true)]
    show R.ok (ks.map Prod.fst) s1 = _
    rw [hk]
  exact call_val (cons_ok (lc_ok (s1 := s1) (s2 := s1) (s3 := s1) ei rfl q rfl) rfl) rfl (hAny_map _ ps)
theorem least_loop : ∀ (qs acc : List Bx) (c : Option DV), (c = none ∨ ∃ d, c = some (.imm d)) → acc.length + qs.length ≤ mx → ∃ c', loopF (gOne 2) bLeast (qs.map bxD) [some (.imm (.dict ks)), none, c, some (.own (acc.map bxD))] = .nx [some (.imm (.dict ks)), none, c', some (.own ((acc ++ qs.filter (kept ps)).map bxD))]
  | [], acc, c, _, _ => ⟨c, by
    rw [List.filter_nil, List.append_nil]
    rfl⟩
  | p :: qs, acc, c, hc, hq => by
    rw [List.length_cons] at hq
    have hg : gOne 2 (bxD p) [some (.imm (.dict ks)), none, c, some (.own (acc.map bxD))] = some [some (.imm (.dict ks)), none, some (.imm (bxD p)), some (.own (acc.map bxD))] := by
      rcases hc with rfl | ⟨d, rfl⟩ <;> rfl
    have ha := least_any hk hl p acc
    cases hb : ps.any fun q => beat q p with
    | true =>
      rw [hb] at ha
      have e : bLeast [some (.imm (.dict ks)), none, some (.imm (bxD p)), some (.own (acc.map bxD))] = .nx [some (.imm (.dict ks)), none, some (.imm (bxD p)), some (.own (acc.map bxD))] := ifS_f (not_t (tr_ok ha rfl)) rfl
      have ek : kept ps p = false := by unfold kept; rw [hb]; rfl
      obtain ⟨c', q⟩ := least_loop qs acc (some (.imm (bxD p))) (.inr ⟨_, rfl⟩) (by omega)
      refine ⟨c', ?_⟩
      rw [List.map_cons, List.filter_cons_of_neg (by rw [ek]; exact Bool.false_ne_true)]
      unfold loopF
      rw [hg]
      dsimp only
      rw [e]
      exact q
    | false =>
      rw [hb] at ha
      have e : bLeast [some (.imm (.dict ks)), none, some (.imm (bxD p)), some (.own (acc.map bxD))] = .nx [some (.imm (.dict ks)), none, some (.imm (bxD p)), some (.own ((acc ++ [p]).map bxD))] := by
        refine ifS_t (not_f (tr_ok ha rfl)) ?_
        have e1 : ((acc.map bxD).length < mx) = True := eq_true (by rw [List.length_map]; omega)
        rw [List.map_append]
        simp only [mkF, s0, av1, List.length_cons, List.length_nil, List.map_cons, List.map_nil, List.replicate, List.cons_append, List.nil_append, fSeq, fSetI, fSetO, fI, fCallF, faCons, faNil, fName, g0, gs, z0, zs, R.bind, R.stm, toAVs, slotsOf, toImm, setD, fIfS, fOr, fAnd, fNot, fTr, asB, Bool.not_true, Bool.not_false, fChain, fImm, fcLink, fcLast, view, hLe, hLt, hGe, hGt, hCmp, fCall, views, hLen, oR, poR, fNx, fRet, f1, f2, outA, Option.map, if_true, fSub, fPar, setM, setC, Option.map_some, hAdd, hSub, hInt, fDrop, fAndV, fOrV, fNotV, fLst, fTup, allImm, fTgt, fRetN, fBk, fCt, fRaise0, Option.bind_some, fIf, gOne, gMany, setsD, fPar2, isSlot, Bool.false_eq_true, if_false, fApp, Option.some.injEq, Bool.or_self, Bool.or_false, Bool.false_or, mx0, mx1, mx2, mx3, e1]
      have ek : kept ps p = true := by unfold kept; rw [hb]; rfl
      obtain ⟨c', q⟩ := least_loop qs (acc ++ [p]) (some (.imm (bxD p))) (.inr ⟨_, rfl⟩) (by rw [List.length_append, List.length_singleton]; omega)
      refine ⟨c', ?_⟩
      rw [List.map_cons, List.filter_cons_of_pos ek]
      unfold loopF
      rw [hg]
      dsimp only
      rw [e]
      rw [List.append_assoc, List.singleton_append] at q
      exact q
theorem least_ok : F__law_least [.imm (.dict ks)] = .ret (.tmp (((srtB ps).filter (kept ps)).map bxD)) [.imm (.dict ks)] := by
  obtain ⟨c', q⟩ := least_loop hk hl (srtB ps) [] none (.inl rfl) (by
    unfold srtB
    rw [sortB_len, List.length_nil]
    omega)
  have es : fSortD (fName 0) [some (.imm (.dict ks)), none, none, some (.own [])] = .ok (.tmp ((srtB ps).map bxD)) [some (.imm (.dict ks)), none, none, some (.own [])] := by
    show (if isKd ks = true then _ else if okS (ks.map Prod.fst) = true then _ else _) = _
    rw [if_neg (by rw [isKd_of hk]; exact Bool.false_ne_true), hk, if_pos (okS_B hl)]
    rw [sortD_map]
    rfl
  refine mkF_tmp rfl (s := [some (.imm (.dict ks)), none, c', none]) ?_ rfl
  refine seq_nx (s1 := [some (.imm (.dict ks)), none, none, some (.own [])]) rfl ?_
  refine seq_nx (for_is (it_list (fI_tmp es)) q) rfl
end
end DLP
end

set_option Elab.async false
set_option linter.all false
set_option pp.maxSteps 300
set_option maxRecDepth 100000
set_option maxHeartbeats 4000000
noncomputable section
namespace DLP
open PySem PySem.Spec PyProof.Rows DL
/-! ### trees made right -/
def encR : T → D
  | .leaf r => .tuple [.str "room", .int r]
  | .node k a b => .tuple [.str (kS k), encR a, encR b]
def rp (k : Bool) : T → List T
  | .leaf r => [.leaf r]
  | .node k' a b => if k' = k then rp k a ++ rp k b else [.node k' a b]
def cnt (k : Bool) : T → Nat
  | .leaf r => 1
  | .node k' a b => if k' = k then 1 + cnt k a + cnt k b else 1
def join (k : Bool) : List T → T
  | [] => .leaf 0
  | [p] => p
  | p :: q :: ps => .node k p (join k (q :: ps))
def pts (k : Bool) : T → List T
  | .leaf r => [.leaf r]
  | .node k' a b => if k' = k then pts k a ++ pts k b else [join k' (pts k' a ++ pts k' b)]
def rgt : T → T
  | .leaf r => .leaf r
  | .node k a b => join k (pts k a ++ pts k b)
theorem rp_rgt (k : Bool) : ∀ t : T, (rp k t).map rgt = pts k t
  | .leaf r => rfl
  | .node k' a b => by
    unfold rp pts
    by_cases h : k' = k
    · rw [if_pos h, if_pos h, List.map_append, rp_rgt k a, rp_rgt k b]
    · rw [if_neg h, if_neg h]
      rfl
theorem rp_dep (k : Bool) : ∀ (t : T), ∀ p ∈ rp k t, p.dep ≤ t.dep
  | .leaf r, p, h => by
    rw [List.mem_singleton.mp h]
    exact Nat.le_refl _
  | .node k' a b, p, h => by
    unfold rp at h
    split at h
    · show p.dep ≤ max a.dep b.dep + 1
      rcases List.mem_append.mp h with h | h
      · have := rp_dep k a p h
        omega
      · have := rp_dep k b p h
        omega
    · rw [List.mem_singleton.mp h]
      exact Nat.le_refl _
theorem rooms_pos : ∀ t : T, 1 ≤ t.rooms.length
  | .leaf r => Nat.le_refl _
  | .node k a b => by
    have := rooms_pos a
    show 1 ≤ (a.rooms ++ b.rooms).length
    rw [List.length_append]
    omega
theorem dep_le : ∀ t : T, t.dep ≤ t.rooms.length
  | .leaf r => Nat.le_refl _
  | .node k a b => by
    have := rooms_pos a
    have := rooms_pos b
    have := dep_le a
    have := dep_le b
    show max a.dep b.dep + 1 ≤ (a.rooms ++ b.rooms).length
    rw [List.length_append]
    omega
theorem cnt_le (k : Bool) : ∀ t : T, cnt k t + 1 ≤ 2 * t.rooms.length
  | .leaf r => Nat.le_refl _
  | .node k' a b => by
    have := cnt_le k a
    have := cnt_le k b
    have := rooms_pos a
    have := rooms_pos b
    unfold cnt
    show _ ≤ 2 * (a.rooms ++ b.rooms).length
    rw [List.length_append]
    split <;> omega
def roomsL (ps : List T) : List Nat := ps.flatMap T.rooms
theorem roomsL_app (a b : List T) : roomsL (a ++ b) = roomsL a ++ roomsL b := List.flatMap_append ..
theorem join_rooms (k : Bool) : ∀ ps : List T, ps ≠ [] → (join k ps).rooms = roomsL ps
  | [], h => absurd rfl h
  | [p], _ => by
    show p.rooms = p.rooms ++ []
    rw [List.append_nil]
  | p :: q :: ps, _ => by
    show p.rooms ++ (join k (q :: ps)).rooms = p.rooms ++ roomsL (q :: ps)
    rw [join_rooms k (q :: ps) (by simp)]
theorem join_ok (k : Bool) : ∀ ps : List T, ps ≠ [] → (∀ p ∈ ps, p.isN k = false ∧ p.Ok) → (join k ps).Ok
  | [], h, _ => absurd rfl h
  | [p], _, h => (h p (List.mem_cons_self ..)).2
  | p :: q :: ps, _, h => ⟨(h p (List.mem_cons_self ..)).1, (h p (List.mem_cons_self ..)).2, join_ok k (q :: ps) (by simp) fun r hr => h r (List.mem_cons_of_mem _ hr)⟩
theorem pts_ok : ∀ (t : T) (k : Bool), pts k t ≠ [] ∧ roomsL (pts k t) = t.rooms ∧ ∀ p ∈ pts k t, p.isN k = false ∧ p.Ok
  | .leaf r, k => ⟨by simp [pts], rfl, fun p hp => by
    rw [List.mem_singleton.mp hp]
    exact ⟨rfl, trivial⟩⟩
  | .node k' a b, k => by
    unfold pts
    by_cases h : k' = k
    · subst h
      obtain ⟨a1, a2, a3⟩ := pts_ok a k'
      obtain ⟨b1, b2, b3⟩ := pts_ok b k'
      rw [if_pos rfl]
      refine ⟨by simp [a1], ?_, fun p hp => ?_⟩
      · rw [roomsL_app, a2, b2]
        rfl
      · rcases List.mem_append.mp hp with hp | hp
        · exact a3 p hp
        · exact b3 p hp
    · obtain ⟨a1, a2, a3⟩ := pts_ok a k'
      obtain ⟨b1, b2, b3⟩ := pts_ok b k'
      rw [if_neg h]
      have hne : pts k' a ++ pts k' b ≠ [] := by simp [a1]
      refine ⟨by simp, ?_, fun p hp => ?_⟩
      · show (join k' (pts k' a ++ pts k' b)).rooms ++ [] = _
        rw [List.append_nil, join_rooms k' _ hne, roomsL_app, a2, b2]
        rfl
      · rw [List.mem_singleton.mp hp]
        refine ⟨?_, join_ok k' _ hne fun p hp => ?_⟩
        · cases ea : pts k' a with
          | nil => exact absurd ea a1
          | cons x xs =>
            cases eb : pts k' b with
            | nil => exact absurd eb b1
            | cons y ys =>
              cases xs with
              | nil =>
                show (k' == k) = false
                exact beq_eq_false_iff_ne.mpr h
              | cons z zs =>
                show (k' == k) = false
                exact beq_eq_false_iff_ne.mpr h
        · rcases List.mem_append.mp hp with hp | hp
          · exact a3 p hp
          · exact b3 p hp
theorem rgt_ok (t : T) : (rgt t).rooms = t.rooms ∧ (rgt t).Ok := by
  cases t with
  | leaf r => exact ⟨rfl, trivial⟩
  | node k a b =>
    obtain ⟨a1, a2, a3⟩ := pts_ok a k
    obtain ⟨b1, b2, b3⟩ := pts_ok b k
    have hne : pts k a ++ pts k b ≠ [] := by simp [a1]
    refine ⟨?_, join_ok k _ hne fun p hp => ?_⟩
    · show (join k (pts k a ++ pts k b)).rooms = _
      rw [join_rooms k _ hne, roomsL_app, a2, b2]
      rfl
    · rcases List.mem_append.mp hp with hp | hp
      · exact a3 p hp
      · exact b3 p hp
/-! ### the walk -/
theorem room_eq : hEq (.str "room") (.str "room") = some (.val (.bool true)) := by kernel_rfl
theorem kind_room (k : Bool) : hEq (.str (kS k)) (.str "room") = some (.val (.bool false)) := by cases k <;> kernel_rfl
theorem room_kind (k : Bool) : hEq (.str "room") (.str (kS k)) = some (.val (.bool false)) := by cases k <;> kernel_rfl
def bRgt (F : List AV → RF) : FS := (fSeq (fSetI 1 (fPop 2)) (fIfS (fTr (f2 hEq (f2 hIx (fName 1) (fImm (.int 0))) (fName 5))) (fSeq (fApp 2 (f2 hIx (fName 1) (fImm (.int 2)))) (fApp 2 (f2 hIx (fName 1) (fImm (.int 1))))) (fApp 3 (fCallF F (faCons (fName 1) faNil)))))
def cRgt : FT := (fTr (f2 hGt (fCall hLen (faCons (fName 2) faNil)) (fImm (.int 0))))
def stR (A : D) (k : Bool) (c : Option DV) (st ps : List T) : SD := [some (.imm A), c, some (.own (st.map encR)), some (.own (ps.map encT)), none, some (.imm (.str (kS k))), none]
theorem pop_ok {A : D} {k : Bool} {c : Option DV} {st ps : List T} {x : T} : fPop 2 (stR A k c (st ++ [x]) ps) = .ok (.imm (encR x)) (stR A k c st ps) := by
  show (match lastD ((st ++ [x]).map encR) with | some d => R.ok (RV.imm d) (setS (stR A k c (st ++ [x]) ps) 2 (some (.own ((st ++ [x]).map encR).dropLast))) | none => .no) = _
  have e : lastD ((st ++ [x]).map encR) = some (encR x) := by
    unfold lastD
    rw [List.map_append, List.length_append]
    show (st.map encR ++ [encR x])[(st.map encR).length + 1 - 1]? = _
    rw [Nat.add_sub_cancel, List.getElem?_append_right (Nat.le_refl _), Nat.sub_self]
    rfl
  rw [e, List.map_append]
  show R.ok (RV.imm (encR x)) (setS _ 2 (some (.own (st.map encR ++ [encR x]).dropLast))) = _
  rw [List.dropLast_concat]
  rfl
theorem app_ok {e : FE} {s s1 : SD} {i : Nat} {xs : List D} {d : D} (h : getS s i = some (some (.own xs))) (he : e s = .ok (.imm d) s1) (h1 : getS s1 i = some (some (.own xs))) (hl : xs.length < mx) : fApp i e s = .nx (setS s1 i (some (.own (xs ++ [d])))) := by
  unfold fApp view
  dsimp only
  rw [h]
  dsimp only
  rw [fI_imm he]
  unfold R.stm
  dsimp only
  unfold setC
  rw [h1]
  dsimp only
  rw [if_pos hl]
  rfl
theorem rgt_loop {F : List AV → RF} {A : D} {k : Bool} : ∀ (fuel : Nat) (st ps : List T) (c : Option DV), (c = none ∨ ∃ d, c = some (.imm d)) → (st.map (cnt k)).sum < fuel → st.length + ps.length + (st.map (cnt k)).sum ≤ 1000 → (∀ p ∈ st.reverse.flatMap (rp k), F [.imm (encR p)] = .ret (.imm (encT (rgt p))) [.imm (encR p)]) → ∃ c', loopW cRgt (bRgt F) fuel (stR A k c st ps) = .nx (stR A k c' [] (ps ++ (st.reverse.flatMap (rp k)).map rgt))
  | 0, _, _, _, _, h, _, _ => by omega
  | fuel + 1, st, ps, c, hc, hf, hl, hF => by
    rcases List.eq_nil_or_concat st with rfl | ⟨st, x, rfl⟩
    · exact ⟨c, by
        rw [List.reverse_nil, List.flatMap_nil, List.map_nil, List.append_nil]
        rfl⟩
    · rw [List.concat_eq_append] at *
      rw [List.map_append, List.sum_append] at hf hl
      rw [List.reverse_append, List.reverse_singleton, List.singleton_append, List.flatMap_cons] at hF ⊢
      rw [List.length_append] at hl
      have hx1 : ([x].map (cnt k)).sum = cnt k x := by simp
      rw [hx1] at hf hl
      rw [show [x].length = 1 from rfl] at hl
      have hcnd : cRgt (stR A k c (st ++ [x]) ps) = .ok true (stR A k c (st ++ [x]) ps) := by
        refine tr_ok (f2_val (r1 := .imm (.int ((st ++ [x]).map encR).length)) (r2 := .imm (.int 0)) rfl rfl rfl rfl (x := .bool true) ?_) rfl
        show some (PO.val (.bool (decide ((0 : Int) < (((st ++ [x]).map encR).length : Nat))))) = _
        rw [decide_eq_true (by rw [List.length_map, List.length_append]; show (0 : Int) < ((st.length + 1 : Nat) : Int); omega)]
      have hset : fSetI 1 (fPop 2) (stR A k c (st ++ [x]) ps) = .nx (stR A k (some (.imm (encR x))) st ps) := by
        refine setI_nx pop_ok ?_
        rcases hc with rfl | ⟨d, rfl⟩ <;> rfl
      let S : SD := stR A k (some (.imm (encR x))) st ps
      have stl : st.length ≤ 1000 := by omega
      have key : (x.isN k = true → ∃ a b, x = .node k a b) := fun h => by
        cases x with
        | leaf r => cases h
        | node k' a b =>
          have : k' = k := by
            have h' : (k' == k) = true := h
            exact eq_of_beq h'
          exact ⟨a, b, by rw [this]⟩
      cases hN : x.isN k with
      | true =>
        obtain ⟨a, b, rfl⟩ := key hN
        have erp : rp k (.node k a b) = rp k a ++ rp k b := if_pos rfl
        have ecn : cnt k (.node k a b) = 1 + cnt k a + cnt k b := if_pos rfl
        rw [ecn] at hf hl
        have hbody : bRgt F (stR A k c (st ++ [.node k a b]) ps) = .nx (stR A k (some (.imm (encR (.node k a b)))) (st ++ [b] ++ [a]) ps) := by
          refine seq_nx hset ?_
          refine ifS_t (s1 := S) (tr_ok (f2_val (s1 := S) (r1 := .imm (.str (kS k))) (r2 := .imm (.str (kS k))) rfl rfl rfl rfl (eq_kinds k k)) (by rw [beq_self_eq_true]; rfl)) ?_
          refine seq_nx (app_ok (xs := st.map encR) (d := encR b) (s1 := S) rfl rfl rfl (by rw [List.length_map]; have : mx = 16000000 := rfl; omega)) ?_
          refine (app_ok (i := 2) (xs := st.map encR ++ [encR b]) (d := encR a) (s1 := setS S 2 (some (.own (st.map encR ++ [encR b])))) rfl rfl rfl (by rw [List.length_append, List.length_map, List.length_singleton]; have : mx = 16000000 := rfl; omega)).trans ?_
          unfold stR
          rw [List.map_append, List.map_append]
          rfl
        have hl2 : (st ++ [b] ++ [a]).length + ps.length + ((st ++ [b] ++ [a]).map (cnt k)).sum ≤ 1000 := by
          simp only [List.length_append, List.map_append, List.sum_append, List.length_singleton, List.map_cons, List.map_nil, List.sum_cons, List.sum_nil]
          omega
        obtain ⟨c', q⟩ := rgt_loop (F := F) (A := A) (k := k) fuel (st ++ [b] ++ [a]) ps (some (.imm (encR (.node k a b)))) (.inr ⟨_, rfl⟩) (by
          simp only [List.map_append, List.sum_append, List.map_cons, List.map_nil, List.sum_cons, List.sum_nil]
          omega) hl2 (fun p hp => hF p (by
          rw [erp]
          rw [show (st ++ [b] ++ [a]).reverse = a :: b :: st.reverse by simp, List.flatMap_cons, List.flatMap_cons] at hp
          rw [List.append_assoc]
          exact hp))
        refine ⟨c', ?_⟩
        unfold loopW
        rw [hcnd]
        unfold R.stm
        dsimp only
        rw [hbody]
        dsimp only
        rw [q, erp, show (st ++ [b] ++ [a]).reverse = a :: b :: st.reverse by simp, List.flatMap_cons, List.flatMap_cons, List.append_assoc]
      | false =>
        have erp : rp k x = [x] := by
          cases x with
          | leaf r => rfl
          | node k' a b =>
            have : k' ≠ k := by
              have h' : (k' == k) = false := hN
              exact beq_eq_false_iff_ne.mp h'
            exact if_neg this
        have eq1 : f2 hEq (f2 hIx (fName 1) (fImm (.int 0))) (fName 5) S = .ok (.imm (.bool false)) S := by
          cases x with
          | leaf r => exact f2_val (s1 := S) (r1 := .imm (.str "room")) (r2 := .imm (.str (kS k))) rfl rfl rfl rfl (room_kind k)
          | node k' a b =>
            have h' : (k' == k) = false := hN
            exact f2_val (s1 := S) (r1 := .imm (.str (kS k'))) (r2 := .imm (.str (kS k))) rfl rfl rfl rfl (by rw [eq_kinds, h'])
        have hx := hF x (by rw [erp]; simp)
        have hbody : bRgt F (stR A k c (st ++ [x]) ps) = .nx (stR A k (some (.imm (encR x))) st (ps ++ [rgt x])) := by
          refine seq_nx hset ?_
          refine ifS_f (s1 := S) (tr_ok eq1 rfl) ?_
          refine (app_ok (i := 3) (xs := ps.map encT) (d := encT (rgt x)) (s1 := S) rfl (callF_imm (rs := [.imm (encR x)]) rfl rfl rfl hx) rfl (by rw [List.length_map]; have : mx = 16000000 := rfl; omega)).trans ?_
          unfold stR
          rw [List.map_append]
          rfl
        have cp : 1 ≤ cnt k x := by
          cases x with
          | leaf r => exact Nat.le_refl _
          | node k' a b =>
            unfold cnt
            split <;> omega
        obtain ⟨c', q⟩ := rgt_loop (F := F) (A := A) (k := k) fuel st (ps ++ [rgt x]) (some (.imm (encR x))) (.inr ⟨_, rfl⟩) (by omega) (by
          rw [List.length_append, List.length_singleton]
          omega) (fun p hp => hF p (List.mem_append_right _ hp))
        refine ⟨c', ?_⟩
        unfold loopW
        rw [hcnd]
        unfold R.stm
        dsimp only
        rw [hbody]
        dsimp only
        rw [q, erp, List.singleton_append, List.map_cons, List.append_assoc, List.singleton_append]
end DLP
end

set_option Elab.async false
set_option linter.all false
set_option pp.maxSteps 300
set_option maxRecDepth 100000
set_option maxHeartbeats 4000000
noncomputable section
namespace DLP
open PySem PySem.Spec PyProof.Rows DL
theorem join_cons (k : Bool) (p : T) {ps : List T} (h : ps ≠ []) : join k (p :: ps) = .node k p (join k ps) := by
  cases ps with
  | nil => exact absurd rfl h
  | cons q ps => rfl
def stF (A : D) (k : Bool) (c : Option DV) (ps : List T) (x : T) (c6 : Option DV) : SD := [some (.imm A), c, some (.own []), some (.own (ps.map encT)), some (.imm (encT x)), some (.imm (.str (kS k))), c6]
def bJoin : FS := (fSetI 4 (fTup (faCons (fName 5) (faCons (f2 hIx (fName 3) (fName 6)) (faCons (fName 4) faNil)))))
theorem join_loop {A : D} {k : Bool} {c : Option DV} {ps : List T} : ∀ (m : Nat) (c6 : Option DV), (c6 = none ∨ ∃ d, c6 = some (.imm d)) → m < ps.length → ∃ c6', loopF (gOne 6) bJoin (rgDown ((m : Int) - 1) m) (stF A k c ps (join k (ps.drop m)) c6) = .nx (stF A k c ps (join k ps) c6')
  | 0, c6, _, h => ⟨c6, by rw [List.drop_zero]; rfl⟩
  | m + 1, c6, hc, h => by
    obtain ⟨c6', q⟩ := join_loop (A := A) (k := k) (c := c) (ps := ps) m (some (.imm (.int m))) (.inr ⟨_, rfl⟩) (by omega)
    refine ⟨c6', ?_⟩
    rw [show ((m + 1 : Nat) : Int) - 1 = (m : Int) by omega]
    show loopF (gOne 6) bJoin (.int (m : Int) :: rgDown ((m : Int) - 1) m) _ = _
    have hg : gOne 6 (.int (m : Int)) (stF A k c ps (join k (ps.drop (m + 1))) c6) = some (stF A k c ps (join k (ps.drop (m + 1))) (some (.imm (.int m)))) := by
      rcases hc with rfl | ⟨d, rfl⟩ <;> rfl
    have hm : m < ps.length := by omega
    have e : ps.drop m = ps[m] :: ps.drop (m + 1) := List.drop_eq_getElem_cons hm
    have hne : ps.drop (m + 1) ≠ [] := by
      intro z
      have := congrArg List.length z
      rw [List.length_drop, List.length_nil] at this
      omega
    have hi : hIx (.list (ps.map encT)) (.int m) = some (.val (encT ps[m])) := (ix_of (ds := ps.map encT) (by rw [List.getElem?_map, List.getElem?_eq_getElem hm]; rfl)).2
    let S : SD := stF A k c ps (join k (ps.drop (m + 1))) (some (.imm (.int m)))
    have hb : bJoin S = .nx (stF A k c ps (join k (ps.drop m)) (some (.imm (.int m)))) := by
      have e1 : faCons (fName 5) (faCons (f2 hIx (fName 3) (fName 6)) (faCons (fName 4) faNil)) S = .ok [.imm (.str (kS k)), .imm (encT ps[m]), .imm (encT (join k (ps.drop (m + 1))))] S :=
        cons_ok rfl (cons_ok (f2_val (s1 := S) (r1 := .slot 3) (r2 := .imm (.int m)) rfl rfl rfl rfl hi) rfl)
      have e2 : fTup (faCons (fName 5) (faCons (f2 hIx (fName 3) (fName 6)) (faCons (fName 4) faNil))) S = .ok (.imm (encT (join k (ps.drop m)))) S := by
        unfold fTup
        rw [e1, e, join_cons k _ hne]
        rfl
      exact setI_nx e2 rfl
    unfold loopF
    rw [hg]
    dsimp only
    rw [hb]
    exact q
theorem rng_d {fa : FA} {s s1 : SD} {i : Int} (h : fa s = .ok [.imm (.int i), .imm (.int (-1)), .imm (.int (-1))] s1) (hi : -1 ≤ i) (hb : i ≤ 16000000) : fRngD fa s = .ok (rgDown i (i + 1).toNat) s1 := by
  have e1 : bnd62 i = true := by
    unfold bnd62
    rw [Bool.and_eq_true, decide_eq_true_eq, decide_eq_true_eq]
    omega
  unfold fRngD
  rw [h, rbind_ok]
  dsimp only
  rw [if_pos rfl, if_pos (by rw [e1]; rfl), show i - (-1) = i + 1 by omega]
theorem right_ok : ∀ (n : Nat) (t : T), t.dep ≤ n → t.rooms.length ≤ 24 → F__law_rightened n [.imm (encR t)] = .ret (.imm (encT (rgt t))) [.imm (encR t)]
  | 0, t, h, _ => by cases t <;> cases h
  | n + 1, .leaf r, h, _ => by
    refine mkF_imm rfl (s := [some (.imm (encR (.leaf r))), none, none, none, none, none, none]) ?_ rfl
    exact seq_rt (ifS_t (s1 := [some (.imm (encR (.leaf r))), none, none, none, none, none, none]) (tr_ok (f2_val (s1 := [some (.imm (encR (.leaf r))), none, none, none, none, none, none]) (r1 := .imm (.str "room")) (r2 := .imm (.str "room")) rfl rfl rfl rfl room_eq) rfl) rfl)
  | n + 1, .node k a b, h, hl => by
    let R0 : D := encR (.node k a b)
    have hd : a.dep ≤ n ∧ b.dep ≤ n := by
      have : max a.dep b.dep + 1 ≤ n + 1 := h
      omega
    have hl2 : a.rooms.length + b.rooms.length ≤ 24 := by
      have : (a.rooms ++ b.rooms).length ≤ 24 := hl
      rwa [List.length_append] at this
    have erp : rp k (.node k a b) = rp k a ++ rp k b := if_pos rfl
    have eP : ([T.node k a b].reverse.flatMap (rp k)) = rp k a ++ rp k b := by
      rw [List.reverse_singleton, List.flatMap_cons, List.flatMap_nil, List.append_nil, erp]
    have rooms_rp : ∀ (t : T), ∀ p ∈ rp k t, p.rooms.length ≤ t.rooms.length := by
      intro t
      induction t with
      | leaf r =>
        intro p hp
        rw [List.mem_singleton.mp hp]
        exact Nat.le_refl _
      | node k' c d ic id =>
        intro p hp
        unfold rp at hp
        show _ ≤ (c.rooms ++ d.rooms).length
        rw [List.length_append]
        split at hp
        · rcases List.mem_append.mp hp with hp | hp
          · have := ic p hp
            omega
          · have := id p hp
            omega
        · rw [List.mem_singleton.mp hp]
          show (c.rooms ++ d.rooms).length ≤ _
          rw [List.length_append]
          exact Nat.le_refl _
    have hF : ∀ p ∈ [T.node k a b].reverse.flatMap (rp k), F__law_rightened n [.imm (encR p)] = .ret (.imm (encT (rgt p))) [.imm (encR p)] := fun p hp => by
      rw [eP] at hp
      rcases List.mem_append.mp hp with hp | hp
      · exact right_ok n p (Nat.le_trans (rp_dep k a p hp) hd.1) (by have := rooms_rp a p hp; omega)
      · exact right_ok n p (Nat.le_trans (rp_dep k b p hp) hd.2) (by have := rooms_rp b p hp; omega)
    have hcnt := cnt_le k (.node k a b)
    have hsum : ([T.node k a b].map (cnt k)).sum = cnt k (.node k a b) := by simp
    obtain ⟨c', q⟩ := rgt_loop (F := F__law_rightened n) (A := R0) (k := k) 64 [.node k a b] [] none (.inl rfl) (by rw [hsum]; omega) (by rw [hsum]; simp only [List.length_cons, List.length_nil]; omega) hF
    rw [eP, List.nil_append, List.map_append, rp_rgt, rp_rgt] at q
    obtain ⟨a1, a2, a3⟩ := pts_ok a k
    obtain ⟨b1, b2, b3⟩ := pts_ok b k
    have hne : pts k a ++ pts k b ≠ [] := by simp [a1]
    let P : List T := pts k a ++ pts k b
    have hP : 1 ≤ P.length := List.length_pos_iff.mpr hne
    have hP24 : P.length ≤ 24 := by
      have e : (roomsL P).length ≤ 24 := by
        show (roomsL (pts k a ++ pts k b)).length ≤ 24
        rw [roomsL_app, a2, b2, List.length_append]
        exact hl2
      have : ∀ ps : List T, ps.length ≤ (roomsL ps).length := fun ps => by
        induction ps with
        | nil => exact Nat.le_refl _
        | cons p ps ih =>
          show ps.length + 1 ≤ (p.rooms ++ roomsL ps).length
          rw [List.length_append]
          have := rooms_pos p
          omega
      exact Nat.le_trans (this P) e
    have hlast : P.length - 1 < P.length := by omega
    have hdr : P.drop (P.length - 1) = [P[P.length - 1]] := by
      rw [List.drop_eq_getElem_cons hlast, show P.length - 1 + 1 = P.length by omega, List.drop_length]
    obtain ⟨c6', q2⟩ := join_loop (A := R0) (k := k) (c := c') (ps := P) (P.length - 1) none (.inl rfl) hlast
    rw [hdr] at q2
    let S1 : SD := stR R0 k c' [] P
    let S2 : SD := stF R0 k c' P P[P.length - 1] none
    have lenP : fCall hLen (faCons (fName 3) faNil) S1 = .ok (.imm (.int P.length)) S1 := by
      refine (call_val (s1 := S1) (rs := [.slot 3]) (x := .int (P.map encT).length) rfl rfl rfl).trans ?_
      rw [List.length_map]
    have lenP2 : fCall hLen (faCons (fName 3) faNil) S2 = .ok (.imm (.int P.length)) S2 := by
      refine (call_val (s1 := S2) (rs := [.slot 3]) (x := .int (P.map encT).length) rfl rfl rfl).trans ?_
      rw [List.length_map]
    have hi : hIx (.list (P.map encT)) (.int ((P.length : Int) - 1)) = some (.val (encT P[P.length - 1])) := by
      rw [show (P.length : Int) - 1 = ((P.length - 1 : Nat) : Int) by omega]
      exact (ix_of (ds := P.map encT) (by rw [List.getElem?_map, List.getElem?_eq_getElem hlast]; rfl)).2
    refine mkF_imm rfl (s := stF R0 k c' P (join k P) c6') ?_ rfl
    refine seq_nx (s1 := [some (.imm R0), none, none, none, none, none, none]) (ifS_f (s1 := [some (.imm R0), none, none, none, none, none, none]) (tr_ok (f2_val (s1 := [some (.imm R0), none, none, none, none, none, none]) (r1 := .imm (.str (kS k))) (r2 := .imm (.str "room")) rfl rfl rfl rfl (kind_room k)) rfl) rfl) ?_
    refine seq_nx (s1 := stR R0 k none [.node k a b] []) rfl ?_
    refine seq_nx q ?_
    refine seq_nx (s1 := S2) (setI_nx (s1 := S1) (f2_val (s1 := S1) (r1 := .slot 3) (r2 := .imm (.int ((P.length : Int) - 1))) rfl (f2_val (s1 := S1) (r1 := .imm (.int P.length)) (r2 := .imm (.int 1)) lenP rfl rfl rfl rfl) rfl rfl hi) rfl) ?_
    have er : fRngD (faCons (f2 hSub (fCall hLen (faCons (fName 3) faNil)) (fImm (.int 2))) (faCons (f1 hNeg (fImm (.int 1))) (faCons (f1 hNeg (fImm (.int 1))) faNil))) S2 = .ok (rgDown (((P.length - 1 : Nat) : Int) - 1) (P.length - 1)) S2 := by
      refine (rng_d (i := (P.length : Int) - 2) (cons_ok (f2_val (s1 := S2) (r1 := .imm (.int P.length)) (r2 := .imm (.int 2)) lenP2 rfl rfl rfl rfl) rfl) (by omega) (by omega)).trans ?_
      rw [show ((P.length : Int) - 2 + 1).toNat = P.length - 1 by omega, show (P.length : Int) - 2 = ((P.length - 1 : Nat) : Int) - 1 by omega]
    refine seq_nx (for_is er q2) ?_
    rfl
end DLP
end

set_option Elab.async false
set_option linter.all false
set_option pp.maxSteps 300
set_option maxRecDepth 100000
set_option maxHeartbeats 4000000
noncomputable section
namespace DLP
open PySem PySem.Spec PyProof.Rows DL
/-! ### drawn trees -/
theorem cut_take (ds : List D) (k : Nat) : DL.cutD ds none (some (k : Int)) = ds.take k := by
  unfold DL.cutD
  rw [HT.sIx_none, show HT.sIx ds.length ds.length (some (k : Int)) = min k ds.length from HT.sIx_nat ds.length ds.length k, Nat.sub_zero, List.drop_zero]
  by_cases h : k ≤ ds.length
  · rw [Nat.min_eq_left h]
  · rw [Nat.min_eq_right (by omega), List.take_of_length_le (Nat.le_refl _), List.take_of_length_le (by omega)]
theorem cut_drop (ds : List D) (k : Nat) : DL.cutD ds (some (k : Int)) none = ds.drop k := by
  unfold DL.cutD
  rw [HT.sIx_none, show HT.sIx ds.length 0 (some (k : Int)) = min k ds.length from HT.sIx_nat ds.length 0 k]
  by_cases h : k ≤ ds.length
  · rw [Nat.min_eq_left h, List.take_of_length_le (by rw [List.length_drop]; exact Nat.le_refl _)]
  · rw [Nat.min_eq_right (by omega), List.drop_eq_nil_of_le (Nat.le_refl _), List.drop_eq_nil_of_le (by omega), List.take_nil]
theorem slT_ok {e : FE} {hi : FO} {s s1 s2 : SD} {ds : List D} {k : Nat} {r : RV} (h : e s = .ok r s1) (h2 : hi s1 = .ok (some (k : Int)) s2) (hv : view s2 r = some (.list ds)) : fSl e foNone hi s = .ok (.tmp (ds.take k)) s2 := by
  unfold fSl
  rw [h, rbind_ok]
  unfold foNone
  rw [rbind_ok, h2, rbind_ok]
  rw [hv]
  show R.ok (RV.tmp (DL.cutD ds none (some (k : Int)))) s2 = _
  rw [cut_take]
theorem slD_ok {e : FE} {lo : FO} {s s1 s2 : SD} {ds : List D} {k : Nat} {r : RV} (h : e s = .ok r s1) (h2 : lo s1 = .ok (some (k : Int)) s2) (hv : view s2 r = some (.list ds)) : fSl e lo foNone s = .ok (.tmp (ds.drop k)) s2 := by
  unfold fSl
  rw [h, rbind_ok, h2, rbind_ok]
  unfold foNone
  rw [rbind_ok]
  rw [hv]
  show R.ok (RV.tmp (DL.cutD ds (some (k : Int)) none)) s2 = _
  rw [cut_drop]
theorem par2_nx {i j : Nat} {f g : FE} {s s1 s2 s3 s4 : SD} {d1 d2 : D} (h1 : f s = .ok (.imm d1) s1) (h2 : g s1 = .ok (.imm d2) s2) (h3 : setM false s2 i (.imm d1) = some s3) (h4 : setM false s3 j (.imm d2) = some s4) : fPar2 i j false false f g s = .nx s4 := by
  unfold fPar2 R.stm
  rw [h1]
  dsimp only
  rw [h2]
  dsimp only
  rw [if_neg (by exact Bool.false_ne_true), h3]
  dsimp only
  rw [h4]
def isIm (c : Option DV) : Prop := c = none ∨ ∃ d, c = some (.imm d)
theorem isIm_imm (d : D) : isIm (some (.imm d)) := .inr ⟨d, rfl⟩
def stT (xs : List D) (n : Nat) (rs : List T) (c3 c4 : Option DV) : SD := [some (.lent xs), some (.imm (.int n)), some (.imm (.list (rs.map encR))), c3, c4]
def cT : FT := (fTr (f2 hGt (fCall hLen (faCons (fName 2) faNil)) (fImm (.int 1))))
def bTree : FS := (fSeq (fPar2 3 4 false false (fI (fCallF F__law_draw (faCons (fName 0) (faCons (f2 hSub (fCall hLen (faCons (fName 2) faNil)) (fImm (.int 1))) faNil)))) (fI (fCallF F__law_some (faCons (fName 0) (faCons (fI (fLst (faCons (fImm (.str "up")) (faCons (fImm (.str "level")) faNil)))) faNil))))) (fSetI 2 (f2 hAdd (f2 hAdd (fSl (fName 2) foNone (foSome (fName 3))) (fLst (faCons (fTup (faCons (fName 4) (faCons (f2 hIx (fName 2) (fName 3)) (faCons (f2 hIx (fName 2) (f2 hAdd (fName 3) (fImm (.int 1)))) faNil)))) faNil))) (fSl (fName 2) (foSome (f2 hAdd (fName 3) (fImm (.int 2)))) foNone))))
theorem split_at {rs : List T} {k : Nat} (h : k + 1 < rs.length) : rs = rs.take k ++ (rs[k] :: rs[k + 1] :: rs.drop (k + 2)) := by
  have e1 : rs.drop k = rs[k] :: rs.drop (k + 1) := List.drop_eq_getElem_cons (by omega)
  have e2 : rs.drop (k + 1) = rs[k + 1] :: rs.drop (k + 1 + 1) := List.drop_eq_getElem_cons h
  rw [e2] at e1
  rw [← e1, List.take_append_drop]
theorem tree_step {n : Nat} {rs : List T} {m : Nat} {xs : List D} {c3 c4 : Option DV} (hr : rs.length = m + 2) (hm : m ≤ 100) (hx : Hand xs) (h3 : isIm c3) (h4 : isIm c4) : ∃ xs' k b c3' c4', ∃ h : k + 1 < rs.length, Hand xs' ∧ isIm c3' ∧ isIm c4' ∧ bTree (stT xs n rs c3 c4) = .nx (stT xs' n (rs.take k ++ [.node b rs[k] rs[k + 1]] ++ rs.drop (k + 2)) c3' c4') := by
  obtain ⟨d, xs1, d0, dn, hx1, hF1⟩ := draw_ok hx (n := ((m + 1 : Nat) : Int)) (by omega) (by omega)
  obtain ⟨k, rfl⟩ : ∃ k : Nat, d = k := ⟨d.toNat, by omega⟩
  obtain ⟨j, x, xs2, hj, hx2, hF2⟩ := some_ok hx1 (ds := [.str "up", .str "level"]) (by decide) (by decide)
  obtain ⟨b, rfl⟩ : ∃ b, x = .str (kS b) := by
    match j, hj with
    | 0, hj => cases hj; exact ⟨true, rfl⟩
    | 1, hj => cases hj; exact ⟨false, rfl⟩
    | j + 2, hj => cases hj
  have hk : k + 1 < rs.length := by omega
  refine ⟨xs2, k, b, some (.imm (.int k)), some (.imm (.str (kS b))), hk, hx2, isIm_imm _, isIm_imm _, ?_⟩
  let S : SD := stT xs2 n rs (some (.imm (.int k))) (some (.imm (.str (kS b))))
  have p1 : fSeq (fPar2 3 4 false false (fI (fCallF F__law_draw (faCons (fName 0) (faCons (f2 hSub (fCall hLen (faCons (fName 2) faNil)) (fImm (.int 1))) faNil)))) (fI (fCallF F__law_some (faCons (fName 0) (faCons (fI (fLst (faCons (fImm (.str "up")) (faCons (fImm (.str "level")) faNil)))) faNil))))) fNx (stT xs n rs c3 c4) = .nx S := by
    refine seq_nx (s1 := S) (par2_nx (d1 := .int k) (d2 := .str (kS b)) (s1 := stT xs1 n rs c3 c4) (s2 := stT xs2 n rs c3 c4) (s3 := stT xs2 n rs (some (.imm (.int k))) c4) (fI_imm (callF_lent (s1 := stT xs n rs c3 c4) (rs := [.slot 0, .imm (.int ((m + 1 : Nat) : Int))]) (cons_ok rfl (cons_ok (s1 := stT xs n rs c3 c4) ?_ rfl)) rfl rfl hF1 rfl rfl rfl)) (fI_imm (callF_lent (s1 := stT xs1 n rs c3 c4) (rs := [.slot 0, .imm (.list [.str "up", .str "level"])]) (cons_ok rfl (cons_ok (s1 := stT xs1 n rs c3 c4) (fI_tmp rfl) rfl)) rfl rfl hF2 rfl rfl rfl)) ?_ ?_) rfl
    · refine (f2_val (s1 := stT xs n rs c3 c4) (s2 := stT xs n rs c3 c4) (r1 := .imm (.int (rs.map encR).length)) (r2 := .imm (.int 1)) (x := .int (((rs.map encR).length : Int) - 1)) rfl rfl rfl rfl rfl).trans ?_
      rw [List.length_map, hr, show (((m + 2 : Nat) : Int) - 1) = ((m + 1 : Nat) : Int) by omega]
    · rcases h3 with rfl | ⟨d, rfl⟩ <;> rfl
    · rcases h4 with rfl | ⟨d, rfl⟩ <;> rfl
  have p2 : fPar2 3 4 false false (fI (fCallF F__law_draw (faCons (fName 0) (faCons (f2 hSub (fCall hLen (faCons (fName 2) faNil)) (fImm (.int 1))) faNil)))) (fI (fCallF F__law_some (faCons (fName 0) (faCons (fI (fLst (faCons (fImm (.str "up")) (faCons (fImm (.str "level")) faNil)))) faNil)))) (stT xs n rs c3 c4) = .nx S := by
    unfold fSeq at p1
    split at p1
    · rename_i s' e
      rw [e]
      exact p1
    · rename_i hne
      exact absurd p1 (hne S)
  refine seq_nx p2 ?_
  have lm : (rs.map encR).length = m + 2 := by rw [List.length_map, hr]
  have e1 : fSl (fName 2) foNone (foSome (fName 3)) S = .ok (.tmp ((rs.map encR).take k)) S := slT_ok (s1 := S) (r := .imm (.list (rs.map encR))) rfl rfl rfl
  have e3 : fSl (fName 2) (foSome (f2 hAdd (fName 3) (fImm (.int 2)))) foNone S = .ok (.tmp ((rs.map encR).drop (k + 2))) S := slD_ok (s1 := S) (r := .imm (.list (rs.map encR))) rfl rfl rfl
  have i1 : hIx (.list (rs.map encR)) (.int k) = some (.val (encR rs[k])) := (ix_of (ds := rs.map encR) (by rw [List.getElem?_map, List.getElem?_eq_getElem (by omega)]; rfl)).2
  have i2 : hIx (.list (rs.map encR)) (.int ((k : Int) + 1)) = some (.val (encR rs[k + 1])) := (ix_of (i := k + 1) (ds := rs.map encR) (by rw [List.getElem?_map, List.getElem?_eq_getElem hk]; rfl)).2
  have e2 : fLst (faCons (fTup (faCons (fName 4) (faCons (f2 hIx (fName 2) (fName 3)) (faCons (f2 hIx (fName 2) (f2 hAdd (fName 3) (fImm (.int 1)))) faNil)))) faNil) S = .ok (.tmp [encR (.node b rs[k] rs[k + 1])]) S := by
    have a1 : faCons (fName 4) (faCons (f2 hIx (fName 2) (fName 3)) (faCons (f2 hIx (fName 2) (f2 hAdd (fName 3) (fImm (.int 1)))) faNil)) S = .ok [.imm (.str (kS b)), .imm (encR rs[k]), .imm (encR rs[k + 1])] S :=
      cons_ok rfl (cons_ok (f2_val (s1 := S) (r1 := .imm (.list (rs.map encR))) (r2 := .imm (.int k)) rfl rfl rfl rfl i1) (cons_ok (f2_val (s1 := S) (r1 := .imm (.list (rs.map encR))) (r2 := .imm (.int ((k : Int) + 1))) rfl rfl rfl rfl i2) rfl))
    have a2 : fTup (faCons (fName 4) (faCons (f2 hIx (fName 2) (fName 3)) (faCons (f2 hIx (fName 2) (f2 hAdd (fName 3) (fImm (.int 1)))) faNil))) S = .ok (.imm (encR (.node b rs[k] rs[k + 1]))) S := by
      unfold fTup
      rw [a1]
      rfl
    have a3 : faCons (fTup (faCons (fName 4) (faCons (f2 hIx (fName 2) (fName 3)) (faCons (f2 hIx (fName 2) (f2 hAdd (fName 3) (fImm (.int 1)))) faNil)))) faNil S = .ok [.imm (encR (.node b rs[k] rs[k + 1]))] S := cons_ok a2 rfl
    unfold fLst
    rw [a3]
    rfl
  have l1 : ((rs.map encR).take k).length ≤ m + 2 := by rw [List.length_take, lm]; omega
  have l2 : ((rs.map encR).drop (k + 2)).length ≤ m + 2 := by rw [List.length_drop, lm]; omega
  have f1 : f2 hAdd (fSl (fName 2) foNone (foSome (fName 3))) (fLst (faCons (fTup (faCons (fName 4) (faCons (f2 hIx (fName 2) (fName 3)) (faCons (f2 hIx (fName 2) (f2 hAdd (fName 3) (fImm (.int 1)))) faNil)))) faNil)) S = .ok (.tmp ((rs.map encR).take k ++ [encR (.node b rs[k] rs[k + 1])])) S := f2_ok e1 e2 rfl rfl (add_list (mx_of (by rw [List.length_singleton]; omega)))
  refine setI_tmp (f2_ok (o := .lst ((rs.map encR).take k ++ [encR (.node b rs[k] rs[k + 1])] ++ (rs.map encR).drop (k + 2))) f1 e3 rfl rfl (add_list (mx_of (by rw [List.length_append, List.length_singleton]; omega)))) ?_
  unfold stT
  rw [List.map_append, List.map_append, List.map_take, List.map_drop]
  rfl
theorem tree_loop {n : Nat} : ∀ (m fuel : Nat) (rs : List T) (xs : List D) (c3 c4 : Option DV), rs.length = m + 1 → m < fuel → m ≤ 100 → Hand xs → isIm c3 → isIm c4 → ∃ xs' r c3' c4', loopW cT bTree fuel (stT xs n rs c3 c4) = .nx (stT xs' n [r] c3' c4') ∧ Hand xs' ∧ r.rooms = roomsL rs
  | 0, fuel + 1, rs, xs, c3, c4, hr, hf, _, hx, _, _ => by
    match rs, hr with
    | [r], _ =>
      refine ⟨xs, r, c3, c4, ?_, hx, ?_⟩
      · rfl
      · show r.rooms = r.rooms ++ []
        rw [List.append_nil]
  | m + 1, fuel + 1, rs, xs, c3, c4, hr, hf, hm, hx, h3, h4 => by
    obtain ⟨xs1, k, b, c3', c4', hk, hx1, i3, i4, hb⟩ := tree_step (n := n) (m := m) hr (by omega) hx h3 h4
    obtain ⟨xs2, r, c3'', c4'', q, hx2, hrr⟩ := tree_loop (n := n) m fuel (rs.take k ++ [.node b rs[k] rs[k + 1]] ++ rs.drop (k + 2)) xs1 c3' c4' (by
      rw [List.length_append, List.length_append, List.length_take, List.length_drop, List.length_singleton]
      omega) (by omega) (by omega) hx1 i3 i4
    refine ⟨xs2, r, c3'', c4'', ?_, hx2, ?_⟩
    · have hcnd : cT (stT xs n rs c3 c4) = .ok true (stT xs n rs c3 c4) := by
        refine tr_ok (f2_val (s1 := stT xs n rs c3 c4) (r1 := .imm (.int (rs.map encR).length)) (r2 := .imm (.int 1)) rfl rfl rfl rfl (x := .bool true) ?_) rfl
        show some (PO.val (.bool (decide ((1 : Int) < ((rs.map encR).length : Nat))))) = _
        rw [decide_eq_true (by rw [List.length_map, hr]; omega)]
      unfold loopW
      rw [hcnd]
      unfold R.stm
      dsimp only
      rw [hb]
      exact q
    · rw [hrr, roomsL_app, roomsL_app]
      have e := split_at hk
      have : roomsL rs = roomsL (rs.take k ++ (rs[k] :: rs[k + 1] :: rs.drop (k + 2))) := congrArg roomsL e
      rw [this, roomsL_app, List.append_assoc]
      show _ ++ ((rs[k].rooms ++ rs[k + 1].rooms ++ []) ++ roomsL (rs.drop (k + 2))) = _ ++ (rs[k].rooms ++ (rs[k + 1].rooms ++ roomsL (rs.drop (k + 2))))
      rw [List.append_nil, List.append_assoc]
theorem leafs_rooms : ∀ l : List Nat, roomsL (l.map .leaf) = l
  | [] => rfl
  | x :: l => by
    show [x] ++ roomsL (l.map .leaf) = _
    rw [leafs_rooms l]
    rfl
/-- the drawn tree's contract -/
theorem drawTree_ok {xs : List D} (hx : Hand xs) {n : Nat} (h1 : 1 ≤ n) (h7 : n ≤ 7) : ∃ t xs', TOk t n ∧ Hand xs' ∧ F__law_draw_tree [.lent xs, .imm (.int n)] = .ret (.imm (encT t)) [.lent xs', .imm (.int n)] := by
  obtain ⟨xs', r, c3, c4, q, hx', hr⟩ := tree_loop (n := n) (n - 1) 64 ((List.range n).map .leaf) xs none none (by rw [List.length_map, List.length_range]; omega) (by omega) (by omega) hx (.inl rfl) (.inl rfl)
  rw [leafs_rooms] at hr
  have hl : r.rooms.length = n := by rw [hr, List.length_range]
  obtain ⟨g1, g2⟩ := rgt_ok r
  have hrt := right_ok 12 r (Nat.le_trans (dep_le r) (by omega)) (by omega)
  refine ⟨rgt r, xs', ⟨g2, by rw [g1, hr], h1, h7, Nat.le_trans (dep_le _) (by rw [g1]; omega)⟩, hx', ?_⟩
  let s0' : SD := [some (.lent xs), some (.imm (.int n)), none, none, none]
  have q0 := loopC_mapE (gg := gOne 3) (cond := fYes) (elt := fTup (faCons (fImm (.str "room")) (faCons (fName 3) faNil))) (vs := [3]) (s := s0') natD (fun r => encR (.leaf r)) (List.range' 0 n) [] (fun r hr => ⟨[some (.lent xs), some (.imm (.int n)), none, some (.imm (.int r)), none], [some (.lent xs), some (.imm (.int n)), none, some (.imm (.int r)), none], [some (.lent xs), some (.imm (.int n)), none, some (.imm (.int r)), none], rfl, rfl, rfl, rfl⟩) (by rw [List.length_nil, List.length_range']; exact mx_of (by omega))
  have e0 : fRng1 (faCons (fName 1) faNil) s0' = .ok ((List.range' 0 n).map natD) s0' := by
    rw [← rgFrom_map]
    exact rng1_ok rfl (mx_of (by omega))
  have lc := lc_ok (s1 := s0') (s2 := s0') (s3 := s0') e0 rfl q0 rfl
  refine mkF_imm rfl (s := stT xs' n [r] c3 c4) ?_ rfl
  refine seq_nx (s1 := stT xs n ((List.range n).map .leaf) none none) (setI_tmp lc ?_) ?_
  · rw [List.nil_append]
    unfold stT
    rw [List.map_map, List.range_eq_range']
    rfl
  refine seq_nx q ?_
  exact ret_imm (callF_imm (s1 := stT xs' n [r] c3 c4) (rs := [.imm (encR r)]) rfl rfl rfl hrt)
/-! ### great numbers -/
theorem pow6 : hPow (.int 10) (.int 6) = some (.val (.int 1000000)) := rfl
def bBig : FS := (fSetI 2 (f2 hAdd (f2 hMul (fName 2) (f2 hPow (fImm (.int 10)) (fImm (.int 6)))) (fCallF F__law_draw (faCons (fName 0) (faCons (f2 hPow (fImm (.int 10)) (fImm (.int 6))) faNil)))))
def stB (xs : List D) (M : Int) (f : Int) (c : Option DV) : SD := [some (.lent xs), some (.imm (.int M)), some (.imm (.int f)), c]
theorem big_loop {M : Int} : ∀ (ds : List Nat) (xs : List D) (f : Int) (c : Option DV), Hand xs → isIm c → ∃ xs' f' c', loopF (gOne 3) bBig (ds.map natD) (stB xs M f c) = .nx (stB xs' M f' c') ∧ Hand xs'
  | [], xs, f, c, hx, _ => ⟨xs, f, c, rfl, hx⟩
  | r :: ds, xs, f, c, hx, hc => by
    obtain ⟨d, xs1, d0, dn, hx1, hF⟩ := draw_ok hx (n := 1000000) (by decide) (by decide)
    obtain ⟨xs2, f', c', q, hx2⟩ := big_loop (M := M) ds xs1 (f * 1000000 + d) (some (.imm (natD r))) hx1 (isIm_imm _)
    refine ⟨xs2, f', c', ?_, hx2⟩
    have hg : gOne 3 (natD r) (stB xs M f c) = some (stB xs M f (some (.imm (natD r)))) := by
      rcases hc with rfl | ⟨d, rfl⟩ <;> rfl
    let S : SD := stB xs M f (some (.imm (natD r)))
    let S1 : SD := stB xs1 M f (some (.imm (natD r)))
    have e1 : f2 hMul (fName 2) (f2 hPow (fImm (.int 10)) (fImm (.int 6))) S = .ok (.imm (.int (f * 1000000))) S := f2_val (s1 := S) (r1 := .imm (.int f)) (r2 := .imm (.int 1000000)) rfl (f2_val (s1 := S) (r1 := .imm (.int 10)) (r2 := .imm (.int 6)) rfl rfl rfl rfl pow6) rfl rfl (mul_r rfl)
    have e2 : fCallF F__law_draw (faCons (fName 0) (faCons (f2 hPow (fImm (.int 10)) (fImm (.int 6))) faNil)) S = .ok (.imm (.int d)) S1 := callF_lent (s1 := S) (rs := [.slot 0, .imm (.int 1000000)]) (cons_ok rfl (cons_ok (f2_val (s1 := S) (r1 := .imm (.int 10)) (r2 := .imm (.int 6)) rfl rfl rfl rfl pow6) rfl)) rfl rfl hF rfl rfl rfl
    have hb : bBig S = .nx (stB xs1 M (f * 1000000 + d) (some (.imm (natD r)))) := setI_nx (f2_val (s1 := S) (s2 := S1) (r1 := .imm (.int (f * 1000000))) (r2 := .imm (.int d)) e1 e2 rfl rfl rfl) rfl
    rw [List.map_cons]
    unfold loopF
    rw [hg]
    dsimp only
    rw [hb]
    exact q
theorem big_ok {xs : List D} (hx : Hand xs) {M : Int} (h1 : 1 ≤ M) {x : Str} {z : Nat} (hs : hStr [.int M] = some (.val (.str x))) (hz : hLenS [.str x] = some (.val (.int z))) (hz2 : z ≤ 100) : ∃ d xs', 0 ≤ d ∧ d < M ∧ Hand xs' ∧ F__law_big [.lent xs, .imm (.int M)] = .ret (.imm (.int d)) [.lent xs', .imm (.int M)] := by
  obtain ⟨xs', f', c', q, hx'⟩ := big_loop (M := M) (List.range' 0 (1 + z / 6)) xs 0 none hx (.inl rfl)
  refine ⟨f'.fmod M, xs', Int.fmod_nonneg_of_pos _ (by omega), Int.fmod_lt_of_pos _ (by omega), hx', ?_⟩
  let S : SD := stB xs M 0 none
  have e0 : fRng1 (faCons (fI (f2 hAdd (fImm (.int 1)) (f2 hDiv (fCall hLenS (faCons (fCall hStr (faCons (fName 1) faNil)) faNil)) (fImm (.int 6))))) faNil) S = .ok ((List.range' 0 (1 + z / 6)).map natD) S := by
    rw [← rgFrom_map]
    refine rng1_ok (cons_ok (s1 := S) (fI_imm (s1 := S) ?_) rfl) (mx_of (by omega))
    have e1 : f2 hDiv (fCall hLenS (faCons (fCall hStr (faCons (fName 1) faNil)) faNil)) (fImm (.int 6)) S = .ok (.imm (.int ((z : Int).fdiv 6))) S := f2_val (s1 := S) (r1 := .imm (.int z)) (r2 := .imm (.int 6)) (call_val (s1 := S) (rs := [.imm (.str x)]) (cons_ok (call_val (s1 := S) (rs := [.imm (.int M)]) rfl rfl hs) rfl) rfl hz) rfl rfl rfl (div_ok (by decide) (by decide))
    refine (f2_val (s1 := S) (s2 := S) (r1 := .imm (.int 1)) (r2 := .imm (.int ((z : Int).fdiv 6))) (x := .int (1 + (z : Int).fdiv 6)) rfl e1 rfl rfl rfl).trans ?_
    rw [show 1 + (z : Int).fdiv 6 = ((1 + z / 6 : Nat) : Int) by rw [Int.fdiv_eq_ediv_of_nonneg _ (by decide)]; omega]
  refine mkF_imm rfl (s := stB xs' M f' c') ?_ rfl
  refine seq_nx (s1 := S) rfl ?_
  refine seq_nx (for_is e0 q) ?_
  exact ret_imm (f2_val (s1 := stB xs' M f' c') (r1 := .imm (.int f')) (r2 := .imm (.int M)) rfl rfl rfl rfl (mod_ok (by omega)))
theorem str3 : ∃ x, hStr [.int 3] = some (.val (.str x)) ∧ hLenS [.str x] = some (.val (.int (1 : Nat))) := ⟨_, rfl, by kernel_rfl⟩
theorem str9 : ∃ x, hStr [.int 9] = some (.val (.str x)) ∧ hLenS [.str x] = some (.val (.int (1 : Nat))) := ⟨_, rfl, by kernel_rfl⟩
theorem strG : ∃ x, hStr [.int 1000000000] = some (.val (.str x)) ∧ hLenS [.str x] = some (.val (.int (10 : Nat))) := ⟨_, rfl, by kernel_rfl⟩
theorem bigs_ok {xs : List D} (hx : Hand xs) {M : Int} (h : M = 3 ∨ M = 9 ∨ M = 1000000000) : ∃ d xs', 0 ≤ d ∧ d < M ∧ Hand xs' ∧ F__law_big [.lent xs, .imm (.int M)] = .ret (.imm (.int d)) [.lent xs', .imm (.int M)] := by
  rcases h with rfl | rfl | rfl
  · obtain ⟨x, h1, h2⟩ := str3
    exact big_ok hx (by decide) h1 h2 (by decide)
  · obtain ⟨x, h1, h2⟩ := str9
    exact big_ok hx (by decide) h1 h2 (by decide)
  · obtain ⟨x, h1, h2⟩ := strG
    exact big_ok hx (by decide) h1 h2 (by decide)
end DLP
end

set_option Elab.async false
set_option linter.all false
set_option pp.maxSteps 300
set_option maxRecDepth 100000
set_option maxHeartbeats 4000000
noncomputable section
namespace DLP
open PySem PySem.Spec PyProof.Rows DL
/-! ### the steps of a turn -/
def t1 : FS := (fSetI 10 (f2 hAdd (fImm (.int 1)) (fCallF F__law_draw (faCons (fName 3) (faCons (fImm (.int 7)) faNil)))))
def t2 : FS := (fTgt (gMany [12, 9]) (fTup (faCons (fI (fCallF F__law_draw_tree (faCons (fName 3) (faCons (fName 10) faNil)))) (faCons (f2 hIx (fLst (faCons (fImm (.int 3)) (faCons (fImm (.int 9)) (faCons (f2 hPow (fImm (.int 10)) (fImm (.int 9))) faNil)))) (fCallF F__law_draw (faCons (fName 3) (faCons (fImm (.int 3)) faNil)))) faNil))))
def t3 : FS := (fSetI 7 (fCall hTuple (faCons (fLc (fRng1 (faCons (fName 10) faNil)) [15] (gOne 15) fYes (fTup (faCons (fI (f2 hAdd (fImm (.int 1)) (fCallF F__law_big (faCons (fName 3) (faCons (fName 9) faNil))))) (faCons (fI (f2 hAdd (fImm (.int 1)) (fCallF F__law_big (faCons (fName 3) (faCons (fName 9) faNil))))) faNil)))) faNil)))
def t4 : FS := (fSetI 8 (fCallF F__law_all_boxes (faCons (fName 12) (faCons (fName 7) faNil))))
def t5 : FS := (fPar2 4 2 false false (fI (fCallF F__law_least (faCons (fName 8) faNil))) (fI (fCallF F_shapes (faCons (fName 12) (faCons (fName 7) faNil)))))
def t6 : FS := (fIfS (fOr (fNot (fTr (f1 (hIs .list) (fName 2)))) (fOr (fTr (f2 hNe (fCall hLen (faCons (fName 2) faNil)) (fCall hLen (faCons (fName 4) faNil)))) (fTr (f2 hNotB (fCallF F_are_shapes (faCons (fName 12) (faCons (fName 7) (faCons (fName 2) faNil)))) (fImm (.bool true)))))) (fRet (fImm (.bool false))) fNx)
def t7 : FS := (fFor (fRng1 (faCons (fCall hLen (faCons (fName 4) faNil)) faNil)) (gOne 1) (fSeq (fIfS (fOr (fNot (fTr (f1 (hIs .tuple) (f2 hIx (fName 2) (fName 1))))) (fOr (fTr (f2 hNe (fCall hLen (faCons (f2 hIx (fName 2) (fName 1)) faNil)) (fImm (.int 3)))) (fNot (fTr (fCallF (F__law_kept 12) (faCons (fI (fSl (f2 hIx (fName 2) (fName 1)) foNone (foSome (fImm (.int 2))))) (faCons (f2 hIx (fName 4) (fName 1)) faNil))))))) (fRet (fImm (.bool false))) fNx) (fIfS (fOr (fNot (fTr (f1 (hIs .tuple) (f2 hIx (f2 hIx (fName 2) (fName 1)) (fImm (.int 2)))))) (fTr (f2 (hIn true) (f2 hIx (f2 hIx (fName 2) (fName 1)) (fImm (.int 2))) (f2 hDIx (fName 8) (f2 hIx (fName 4) (fName 1)))))) (fRet (fImm (.bool false))) fNx)))
def t8 : FS := (fSetI 5 (fLc (fIt (fName 4)) [6] (gOne 6) fYes (fTup (faCons (f2 hIx (fName 6) (fImm (.int 0))) (faCons (f2 hIx (fName 6) (fImm (.int 1))) (faCons (fI (fCallF F__law_some (faCons (fName 3) (faCons (f2 hDIx (fName 8) (fName 6)) faNil)))) faNil))))))
def t9 : FS := (fIfS (fTr (f2 hNotB (fCallF F_are_shapes (faCons (fName 12) (faCons (fName 7) (faCons (fI (fCall hList (faCons (fName 5) faNil))) faNil)))) (fImm (.bool true)))) (fRet (fImm (.bool false))) fNx)
def t10 : FS := (fSetI 1 (fCallF F__law_draw (faCons (fName 3) (faCons (fCall hLen (faCons (fName 5) faNil)) faNil))))
def t11 : FS := (fTgt (gMany [13, 11, 16]) (f2 hIx (fName 5) (fName 1)))
def t12 : FS := (fSetO 14 (fLst (faCons (fI (f2 hAdd (fSl (fName 5) foNone (foSome (fName 1))) (fSl (fName 5) (foSome (f2 hAdd (fName 1) (fImm (.int 1)))) foNone))) (faCons (fI (f2 hAdd (fName 5) (fSl (fName 5) foNone (foSome (fImm (.int 1)))))) (faCons (fCall hTuple (faCons (fName 5) faNil)) (faCons (fI (f2 hAdd (f2 hAdd (fSl (fName 5) foNone (foSome (fName 1))) (fLst (faCons (fTup (faCons (fName 13) (faCons (fI (f2 hAdd (fName 11) (fImm (.int 1)))) (faCons (fName 16) faNil)))) faNil))) (fSl (fName 5) (foSome (f2 hAdd (fName 1) (fImm (.int 1)))) foNone))) (faCons (fImm .none) (faCons (fImm (.str "")) (faCons (fI (f2 hAdd (fName 5) (fLst (faCons (fImm .none) faNil)))) faNil)))))))))
def t13 : FS := (fSetO 14 (f2 hAdd (fName 14) (fLst (faCons (fI (f2 hAdd (f2 hAdd (fSl (fName 5) foNone (foSome (fName 1))) (fLst (faCons (fTup (faCons (fName 13) (faCons (fName 11) (faCons (fI (fCall hList (faCons (fName 16) faNil))) faNil)))) faNil))) (fSl (fName 5) (foSome (f2 hAdd (fName 1) (fImm (.int 1)))) foNone))) (faCons (fI (f2 hAdd (f2 hAdd (fSl (fName 5) foNone (foSome (fName 1))) (fLst (faCons (fTup (faCons (fName 13) (faCons (fName 11) faNil))) faNil))) (fSl (fName 5) (foSome (f2 hAdd (fName 1) (fImm (.int 1)))) foNone))) faNil)))))
def t14 : FS := (fSetO 14 (f2 hAdd (fName 14) (fLst (faCons (fI (f2 hAdd (f2 hAdd (fSl (fName 5) foNone (foSome (fName 1))) (fLst (faCons (fTup (faCons (fName 13) (faCons (fName 11) (faCons (fI (f2 hAdd (fName 16) (fTup (faCons (fName 10) faNil)))) faNil)))) faNil))) (fSl (fName 5) (foSome (f2 hAdd (fName 1) (fImm (.int 1)))) foNone))) (faCons (fI (f2 hAdd (f2 hAdd (fSl (fName 5) foNone (foSome (fName 1))) (fLst (faCons (fTup (faCons (fI (f2 hAdd (fName 11) (fName 13))) (faCons (fName 11) (faCons (fName 16) faNil)))) faNil))) (fSl (fName 5) (foSome (f2 hAdd (fName 1) (fImm (.int 1)))) foNone))) faNil)))))
def t15 : FS := (fIfS (fTr (f2 hGt (fCall hLen (faCons (fName 5) faNil)) (fImm (.int 1)))) (fApp 14 (fRevL (fName 5))) fNx)
def t16 : FS := (fIfS (fTr (f2 hNotB (fCallF F_are_shapes (faCons (fName 12) (faCons (fName 7) (faCons (fI (fCallF F__law_some (faCons (fName 3) (faCons (fName 14) faNil)))) faNil)))) (fImm (.bool false)))) (fRet (fImm (.bool false))) fNx)
def t17 : FS := (fSetI 18 (fCallF F__law_some (faCons (fName 3) (faCons (f2 hDIx (fName 8) (fCallF F__law_some (faCons (fName 3) (faCons (fI (fSortD (fName 8))) faNil)))) faNil))))
def t18 : FS := (fIfS (fNot (fTr (fCallF (F__law_kept 12) (faCons (fI (fCallF F_are_shapes (faCons (fName 12) (faCons (fName 7) (faCons (fI (f2 hAdd (f2 hAdd (fSl (fName 5) foNone (foSome (fName 1))) (fLst (faCons (fTup (faCons (fName 13) (faCons (fName 11) (faCons (fName 18) faNil)))) faNil))) (fSl (fName 5) (foSome (f2 hAdd (fName 1) (fImm (.int 1)))) foNone))) faNil))))) (faCons (f2 (hIn false) (fName 18) (f2 hDIx (fName 8) (fTup (faCons (fName 13) (faCons (fName 11) faNil))))) faNil))))) (fRet (fImm (.bool false))) fNx)
def t19 : FS := (fSetI 17 (fLst (faCons (fI (fCall hList (faCons (fName 7) faNil))) (faCons (fI (fSl (fName 7) (foSome (fImm (.int 1))) foNone)) (faCons (fI (f2 hAdd (fName 7) (fSl (fName 7) foNone (foSome (fImm (.int 1)))))) (faCons (fImm .none) (faCons (fI (f2 hAdd (fTup (faCons (fTup (faCons (fImm (.int 0)) (faCons (fImm (.int 1)) faNil))) faNil)) (fSl (fName 7) (foSome (fImm (.int 1))) foNone))) (faCons (fI (f2 hAdd (fTup (faCons (fTup (faCons (fImm (.int 1)) (faCons (fImm (.bool true)) faNil))) faNil)) (fSl (fName 7) (foSome (fImm (.int 1))) foNone))) (faCons (fI (f2 hAdd (fTup (faCons (fTup (faCons (fImm (.int 1)) faNil)) faNil)) (fSl (fName 7) (foSome (fImm (.int 1))) foNone))) (faCons (fImm (.int 0)) faNil))))))))))
def t20 : FS := (fSetI 17 (f2 hAdd (fName 17) (fLst (faCons (fI (f2 hAdd (fTup (faCons (fTup (faCons (fI (f2 hAdd (f2 hPow (fImm (.int 10)) (fImm (.int 9))) (fImm (.int 1)))) (faCons (fImm (.int 1)) faNil))) faNil)) (fSl (fName 7) (foSome (fImm (.int 1))) foNone))) (faCons (fI (f2 hAdd (fTup (faCons (fI (fLst (faCons (fImm (.int 1)) (faCons (fImm (.int 1)) faNil)))) faNil)) (fSl (fName 7) (foSome (fImm (.int 1))) foNone))) (faCons (fI (f2 hAdd (fTup (faCons (fImm .none) faNil)) (fSl (fName 7) (foSome (fImm (.int 1))) foNone))) faNil))))))
def t21 : FS := (fIfS (fOr (fTr (f2 hNe (fCallF F__law_refusal (faCons (fName 12) (faCons (fI (fCallF F__law_some (faCons (fName 3) (faCons (fName 17) faNil)))) faNil))) (fImm (.str "sizes")))) (fTr (f2 hNe (fCallF F__law_refusal (faCons (fI (fCallF F__law_some (faCons (fName 3) (faCons (fI (fLst (faCons (fImm .none) (faCons (fImm (.int 1)) (faCons (fTup faNil) (faCons (fTup (faCons (fImm (.str "up")) (faCons (fImm (.int 0)) (faCons (fImm (.int 0)) faNil)))) faNil)))))) faNil)))) (faCons (fImm .none) faNil))) (fImm (.str "tree"))))) (fRet (fImm (.bool false))) fNx)
/-! ### the states of a turn -/
def ST (sc : D) (xs : List D) (c : Nat → Option DV) : SD := [some (.imm sc), c 1, c 2, some (.own xs), c 4, c 5, c 6, c 7, c 8, c 9, c 10, c 11, c 12, c 13, c 14, c 15, c 16, c 17, c 18, c 19]
def up (c : Nat → Option DV) (i : Nat) (v : Option DV) : Nat → Option DV := fun j => if j = i then v else c j
def iD (d : D) : Option DV := some (.imm d)
def Ims (c : Nat → Option DV) : Prop := ∀ i, isIm (c i)
theorem ims_up {c : Nat → Option DV} (h : Ims c) (i : Nat) (d : D) : Ims (up c i (iD d)) := fun j => by
  unfold up
  split
  · exact isIm_imm d
  · exact h j
theorem nm {i : Nat} {s : SD} {x : Option DV} {d : D} (h : getS s i = some x) (hx : x = iD d) : fName i s = .ok (.imm d) s := by
  unfold fName
  rw [h, hx]
  rfl
theorem setD_of {i : Nat} {s : SD} {x : Option DV} {dv : DV} (h : getS s i = some x) (hx : isIm x) : setD s i dv = some (setS s i (some dv)) := by
  unfold setD
  rw [h]
  rcases hx with rfl | ⟨d, rfl⟩ <;> rfl
theorem draw3 {sc : D} {xs : List D} {c : Nat → Option DV} {e : FE} {n : Int} (hx : Hand xs) (h1 : 1 ≤ n) (h2 : n ≤ 1000000) (he : e (ST sc xs c) = .ok (.imm (.int n)) (ST sc xs c)) : ∃ d xs', 0 ≤ d ∧ d < n ∧ Hand xs' ∧ fCallF F__law_draw (faCons (fName 3) (faCons e faNil)) (ST sc xs c) = .ok (.imm (.int d)) (ST sc xs' c) := by
  obtain ⟨d, xs', d0, dn, hx', hF⟩ := draw_ok hx h1 h2
  exact ⟨d, xs', d0, dn, hx', callF_lent (s1 := ST sc xs c) (rs := [.slot 3, .imm (.int n)]) (cons_ok rfl (cons_ok he rfl)) rfl rfl hF rfl rfl rfl⟩
theorem some3 {sc : D} {xs xs1 : List D} {c : Nat → Option DV} {e : FE} {ds : List D} (hx : Hand xs1) (h1 : 1 ≤ ds.length) (h2 : ds.length ≤ 1000000) (he : e (ST sc xs c) = .ok (.imm (.list ds)) (ST sc xs1 c)) : ∃ (k : Nat) (d : D) (xs' : List D), ds[k]? = some d ∧ Hand xs' ∧ fCallF F__law_some (faCons (fName 3) (faCons e faNil)) (ST sc xs c) = .ok (.imm d) (ST sc xs' c) := by
  obtain ⟨k, d, xs', hk, hx', hF⟩ := some_ok hx h1 h2
  exact ⟨k, d, xs', hk, hx', callF_lent (s1 := ST sc xs1 c) (rs := [.slot 3, .imm (.list ds)]) (cons_ok rfl (cons_ok he rfl)) rfl rfl hF rfl rfl rfl⟩
section
variable {sc : D} {xs : List D} {c : Nat → Option DV} (hx : Hand xs) (hc : Ims c)
include hx hc
theorem t1_ok : ∃ n xs', 1 ≤ n ∧ n ≤ 7 ∧ Hand xs' ∧ t1 (ST sc xs c) = .nx (ST sc xs' (up c 10 (iD (.int (n : Nat))))) := by
  obtain ⟨d, xs', d0, dn, hx', hF⟩ := draw3 (sc := sc) (c := c) (e := fImm (.int 7)) hx (n := 7) (by decide) (by decide) rfl
  refine ⟨(1 + d).toNat, xs', by omega, by omega, hx', ?_⟩
  refine setI_nx (f2_val (r1 := .imm (.int 1)) (r2 := .imm (.int d)) (x := .int (1 + d)) rfl hF rfl rfl rfl) ?_
  rw [setD_of rfl (hc 10), show (((1 + d).toNat : Nat) : Int) = 1 + d by omega]
  rfl
omit hc in
theorem e2_ok {n : Nat} (h10 : c 10 = iD (.int n)) (h1 : 1 ≤ n) (h7 : n ≤ 7) : ∃ t M xs', TOk t n ∧ (M = 3 ∨ M = 9 ∨ M = 1000000000) ∧ Hand xs' ∧ (fTup (faCons (fI (fCallF F__law_draw_tree (faCons (fName 3) (faCons (fName 10) faNil)))) (faCons (f2 hIx (fLst (faCons (fImm (.int 3)) (faCons (fImm (.int 9)) (faCons (f2 hPow (fImm (.int 10)) (fImm (.int 9))) faNil)))) (fCallF F__law_draw (faCons (fName 3) (faCons (fImm (.int 3)) faNil)))) faNil))) (ST sc xs c) = .ok (.imm (.tuple [encT t, .int M])) (ST sc xs' c) := by
  obtain ⟨t, xs1, ht, hx1, hF1⟩ := drawTree_ok hx h1 h7
  obtain ⟨d, xs2, d0, dn, hx2, hF2⟩ := draw3 (sc := sc) (c := c) (e := fImm (.int 3)) hx1 (n := 3) (by decide) (by decide) rfl
  have q1 : fI (fCallF F__law_draw_tree (faCons (fName 3) (faCons (fName 10) faNil))) (ST sc xs c) = .ok (.imm (encT t)) (ST sc xs1 c) := fI_imm (callF_lent (s1 := ST sc xs c) (rs := [.slot 3, .imm (.int n)]) (cons_ok rfl (cons_ok (nm rfl h10) rfl)) rfl rfl hF1 rfl rfl rfl)
  have q2 : ∃ M : Int, (M = 3 ∨ M = 9 ∨ M = 1000000000) ∧ hIx (.list [.int 3, .int 9, .int 1000000000]) (.int d) = some (.val (.int M)) := by
    have hd : d = 0 ∨ d = 1 ∨ d = 2 := by omega
    rcases hd with rfl | rfl | rfl
    · exact ⟨3, .inl rfl, rfl⟩
    · exact ⟨9, .inr (.inl rfl), rfl⟩
    · exact ⟨1000000000, .inr (.inr rfl), rfl⟩
  obtain ⟨M, hM, q2⟩ := q2
  have q3 : f2 hIx (fLst (faCons (fImm (.int 3)) (faCons (fImm (.int 9)) (faCons (f2 hPow (fImm (.int 10)) (fImm (.int 9))) faNil)))) (fCallF F__law_draw (faCons (fName 3) (faCons (fImm (.int 3)) faNil))) (ST sc xs1 c) = .ok (.imm (.int M)) (ST sc xs2 c) := f2_val (r1 := .tmp [.int 3, .int 9, .int 1000000000]) (r2 := .imm (.int d)) rfl hF2 rfl rfl q2
  refine ⟨t, M, xs2, ht, hM, hx2, ?_⟩
  have q4 := cons_ok q1 (cons_ok q3 (show faNil _ = .ok [] _ from rfl))
  unfold fTup
  rw [q4]
  rfl
theorem t2_ok {n : Nat} (h10 : c 10 = iD (.int n)) (h1 : 1 ≤ n) (h7 : n ≤ 7) : ∃ t M xs', TOk t n ∧ (M = 3 ∨ M = 9 ∨ M = 1000000000) ∧ Hand xs' ∧ t2 (ST sc xs c) = .nx (ST sc xs' (up (up c 12 (iD (encT t))) 9 (iD (.int M)))) := by
  obtain ⟨t, M, xs', ht, hM, hx', q⟩ := e2_ok (sc := sc) hx h10 h1 h7
  refine ⟨t, M, xs', ht, hM, hx', ?_⟩
  unfold t2 fTgt R.stm
  rw [fI_imm q]
  dsimp only
  have g : gMany [12, 9] (.tuple [encT t, .int M]) (ST sc xs' c) = some (ST sc xs' (up (up c 12 (iD (encT t))) 9 (iD (.int M)))) := by
    show ((setD (ST sc xs' c) 12 (.imm (encT t))).bind fun s' => (setD s' 9 (.imm (.int M))).bind fun s' => some s') = _
    rw [setD_of rfl (hc 12)]
    show ((setD (setS (ST sc xs' c) 12 (some (.imm (encT t)))) 9 (.imm (.int M))).bind fun s' => some s') = _
    rw [setD_of (x := c 9) rfl (hc 9)]
    rfl
  rw [g]
omit hc in
theorem one_big {M : Int} (h9 : c 9 = iD (.int M)) (hM : M = 3 ∨ M = 9 ∨ M = 1000000000) : ∃ d xs', (1 ≤ d ∧ d ≤ 1000000000) ∧ Hand xs' ∧ fI (f2 hAdd (fImm (.int 1)) (fCallF F__law_big (faCons (fName 3) (faCons (fName 9) faNil)))) (ST sc xs c) = .ok (.imm (.int d)) (ST sc xs' c) := by
  obtain ⟨d, xs', d0, dn, hx', hF⟩ := bigs_ok hx hM
  refine ⟨1 + d, xs', ⟨by omega, by rcases hM with rfl | rfl | rfl <;> omega⟩, hx', fI_imm (f2_val (r1 := .imm (.int 1)) (r2 := .imm (.int d)) rfl (callF_lent (s1 := ST sc xs c) (rs := [.slot 3, .imm (.int M)]) (cons_ok rfl (cons_ok (nm rfl h9) rfl)) rfl rfl hF rfl rfl rfl) rfl rfl rfl)⟩
end
def eSz : FE := (fTup (faCons (fI (f2 hAdd (fImm (.int 1)) (fCallF F__law_big (faCons (fName 3) (faCons (fName 9) faNil))))) (faCons (fI (f2 hAdd (fImm (.int 1)) (fCallF F__law_big (faCons (fName 3) (faCons (fName 9) faNil))))) faNil)))
theorem sz_loop {sc : D} {M : Int} (hM : M = 3 ∨ M = 9 ∨ M = 1000000000) : ∀ (ds : List Nat) (xs : List D) (c : Nat → Option DV) (acc : List Bx), Hand xs → c 9 = iD (.int M) → acc.length + ds.length ≤ 100 → c 15 = none → ∃ L xs', L.length = ds.length ∧ (∀ p ∈ L, okB p) ∧ Hand xs' ∧ loopC (gOne 15) fYes eSz [15] (ds.map natD) (ST sc xs c) (acc.map bxD) = .ok ((acc ++ L).map bxD) (ST sc xs' c)
  | [], xs, c, acc, hx, _, _, _ => ⟨[], xs, rfl, fun p hp => (by cases hp), hx, by rw [List.append_nil]; rfl⟩
  | r :: ds, xs, c, acc, hx, h9, hl, h15 => by
    rw [List.length_cons] at hl
    have h9' : up c 15 (iD (natD r)) 9 = iD (.int M) := h9
    obtain ⟨w, xs1, hw, hx1, q1⟩ := one_big (sc := sc) (c := up c 15 (iD (natD r))) hx h9' hM
    obtain ⟨h, xs2, hh, hx2, q2⟩ := one_big (sc := sc) (c := up c 15 (iD (natD r))) hx1 h9' hM
    obtain ⟨L, xs3, hL, hb, hx3, q⟩ := sz_loop (sc := sc) hM ds xs2 c (acc ++ [(w, h)]) hx2 h9 (by rw [List.length_append, List.length_singleton]; omega) h15
    refine ⟨(w, h) :: L, xs3, by rw [List.length_cons, List.length_cons, hL], fun p hp => ?_, hx3, ?_⟩
    · rcases List.mem_cons.mp hp with rfl | hp
      · exact ⟨hw, hh⟩
      · exact hb p hp
    · have hg : gOne 15 (natD r) (ST sc xs c) = some (ST sc xs (up c 15 (iD (natD r)))) := by
        show setD (ST sc xs c) 15 (.imm (natD r)) = _
        rw [setD_of (x := c 15) rfl (.inl h15)]
        rfl
      have hw : wipeD (ST sc xs2 (up c 15 (iD (natD r)))) [15] = ST sc xs2 c := by
        have : c = up c 15 none := by
          funext j
          unfold up
          split
          · rename_i h; rw [h, h15]
          · rfl
        conv => rhs; rw [this]
        rfl
      have e1 : eSz (ST sc xs (up c 15 (iD (natD r)))) = .ok (.imm (bxD (w, h))) (ST sc xs2 (up c 15 (iD (natD r)))) := by
        have q4 := cons_ok q1 (cons_ok q2 (show faNil _ = .ok [] _ from rfl))
        unfold eSz fTup
        rw [q4]
        rfl
      rw [List.map_cons, loopC_cons, hg]
      dsimp only
      rw [show fYes (ST sc xs (up c 15 (iD (natD r)))) = .ok true (ST sc xs (up c 15 (iD (natD r)))) from rfl]
      dsimp only
      rw [e1]
      dsimp only
      rw [if_pos (by rw [List.length_map]; have : mx = 16000000 := rfl; omega), hw]
      rw [List.map_append, List.append_assoc, List.singleton_append] at q
      exact q
end DLP
end

set_option Elab.async false
set_option linter.all false
set_option pp.maxSteps 300
set_option maxRecDepth 100000
set_option maxHeartbeats 4000000
noncomputable section
namespace DLP
open PySem PySem.Spec PyProof.Rows DL
theorem up_back {c : Nat → Option DV} (i : Nat) : up (up c i none) i (c i) = c := by
  funext j
  unfold up
  split
  · rename_i h; rw [h]
  · rfl
theorem im_plain {s : SD} {i : Nat} {x : Option DV} (h : getS s i = some x) (hx : isIm x) : plainAt s i = true := by
  unfold plainAt
  rw [h]
  rcases hx with rfl | ⟨d, rfl⟩ <;> rfl
theorem setI_ST {e : FE} {i : Nat} {s s1 s2 : SD} {d : D} {x : Option DV} (h : e s = .ok (.imm d) s1) (hx : getS s1 i = some x) (hi : isIm x) (h2 : setS s1 i (iD d) = s2) : fSetI i e s = .nx s2 := by
  refine setI_nx h ?_
  rw [setD_of hx hi, ← h2]
  rfl
theorem fI_tmpd {e : FE} {s s1 : SD} {ks : List (D × D)} (h : e s = .ok (.tmpd ks) s1) : fI e s = .ok (.imm (.dict ks)) s1 := by
  unfold fI
  rw [h]
  rfl
theorem callF_tmpd {F : List AV → RF} {fa : FA} {rs : List RV} {as as' : List AV} {s s1 : SD} {ks : List (D × D)} (ha : fa s = .ok rs s1) (ht : toAVs s1 rs = some as) (hs : slotsOf rs = []) (hF : F as = .ret (.tmpd ks) as') : fCallF F fa s = .ok (.tmpd ks) s1 := by
  unfold fCallF
  rw [ha]
  show (match toAVs s1 rs with | none => _ | some as => _) = _
  rw [ht]
  dsimp only
  rw [hs]
  dsimp only
  rw [hF]
theorem setI_any {e : FE} {i : Nat} {s s1 s2 : SD} {d : D} {x : Option DV} (h : fI e s = .ok (.imm d) s1) (hx : getS s1 i = some x) (hi : isIm x) (h2 : setS s1 i (iD d) = s2) : fSetI i e s = .nx s2 := by
  unfold fSetI
  rw [h]
  unfold R.stm
  dsimp only
  rw [setD_of hx hi]
  dsimp only
  rw [← h2]
  rfl
section
variable {sc : D} {xs : List D} {c : Nat → Option DV} (hx : Hand xs) (hc : Ims c)
include hx hc
theorem t3_ok {n : Nat} {M : Int} (h10 : c 10 = iD (.int n)) (h9 : c 9 = iD (.int M)) (h7 : n ≤ 7) (hM : M = 3 ∨ M = 9 ∨ M = 1000000000) : ∃ L xs', L.length = n ∧ (∀ p ∈ L, okB p) ∧ Hand xs' ∧ t3 (ST sc xs c) = .nx (ST sc xs' (up c 7 (iD (szD L)))) := by
  obtain ⟨L, xs', hL, hb, hx', q⟩ := sz_loop (sc := sc) hM (List.range' 0 n) xs (up c 15 none) [] hx h9 (by rw [List.length_nil, List.length_range']; omega) rfl
  rw [List.nil_append] at q
  refine ⟨L, xs', by rw [hL, List.length_range'], hb, hx', ?_⟩
  have e0 : fRng1 (faCons (fName 10) faNil) (ST sc xs c) = .ok ((List.range' 0 n).map natD) (ST sc xs c) := by
    rw [← rgFrom_map]
    exact rng1_ok (cons_ok (nm rfl h10) rfl) (mx_of (by omega))
  have lc : fLc (fRng1 (faCons (fName 10) faNil)) [15] (gOne 15) fYes eSz (ST sc xs c) = .ok (.tmp (L.map bxD)) (ST sc xs' c) := by
    refine lc_ok (s1 := ST sc xs c) (s2 := ST sc xs' (up c 15 none)) e0 ?_ q ?_
    · rw [List.all_cons, im_plain (x := c 15) rfl (hc 15)]
      rfl
    · show ST sc xs' (up (up c 15 none) 15 (c 15)) = _
      rw [up_back]
  exact setI_ST (d := szD L) (x := c 7) (call_ok (rs := [.tmp (L.map bxD)]) (o := .tup (L.map bxD)) (cons_ok lc rfl) rfl rfl) rfl (hc 7) rfl
omit hx in
theorem t4_ok {n : Nat} {t : T} {L : List Bx} {sz : Nat → Bx} (ht : TOk t n) (hL : L.length = n) (hs : ∀ r < n, L[r]? = some (sz r)) (h12 : c 12 = iD (encT t)) (h7 : c 7 = iD (szD L)) : ∃ ks, DI (fb sz t) (lotsN n) ks ∧ t4 (ST sc xs c) = .nx (ST sc xs (up c 8 (iD (.dict ks)))) := by
  obtain ⟨ks, hd, hF⟩ := all_ok ht hs hL
  exact ⟨ks, hd, setI_any (x := c 8) (s1 := ST sc xs c) (fI_tmpd (callF_tmpd (rs := [.imm (encT t), .imm (szD L)]) (cons_ok (nm rfl h12) (cons_ok (nm rfl h7) rfl)) rfl rfl hF)) rfl (hc 8) rfl⟩
omit hx hc in
/-- the law's own list is the list told -/
theorem same_boxes {n : Nat} {t : T} {sz : Nat → Bx} {S : List Sh} {ps : List Bx} (ht : TOk t n) (hS : Told sz t n S) (hn : ps.Nodup) (hp : ∀ p, p ∈ ps ↔ ∃ l ∈ lotsN n, fb sz t l = p) (h0 : ∀ q ∈ ps, 0 ≤ q.1 ∧ 0 ≤ q.2) : (srtB ps).filter (kept ps) = S.map Sh.bx := by
  have e : (fun p => p ∈ ps) = fun p => ∃ m, boxT sz m t = p := by
    funext p
    refine propext ((hp p).trans ⟨fun ⟨l, _, h⟩ => ⟨_, h⟩, fun ⟨m, h⟩ => ?_⟩)
    refine ⟨(List.range n).filter m, lotsN_all n _ ⟨List.pairwise_lt_range.filter _, fun r hr => List.mem_range.mp (List.mem_filter.mp hr).1⟩, ?_⟩
    rw [← h]
    refine boxT_congr t fun r hr => ?_
    rw [ht.rm] at hr
    cases hm : m r with
    | true => exact decide_eq_true (List.mem_filter.mpr ⟨hr, hm⟩)
    | false =>
      refine decide_eq_false fun z => ?_
      have := (List.mem_filter.mp z).2
      rw [hm] at this
      cases this
  have f1 := least_fr hn h0
  have f2 := hS.fr
  rw [← e] at f2
  exact fr_uniq f1 f2
omit hx hc in
theorem box_pos {sz : Nat → Bx} {n : Nat} (h : ∀ r < n, okB (sz r)) (m : Nat → Bool) : ∀ t : T, (∀ r ∈ t.rooms, r < n) → 1 ≤ (boxT sz m t).1 ∧ 1 ≤ (boxT sz m t).2
  | .leaf r, hr => by
    have := h r (hr r (List.mem_singleton.mpr rfl))
    unfold okB at this
    unfold boxT
    split
    · exact ⟨this.2.1, this.1.1⟩
    · exact ⟨this.1.1, this.2.1⟩
  | .node k a b, hr => by
    have ha := box_pos h m a fun r m => hr r (List.mem_append_left _ m)
    have hb := box_pos h m b fun r m => hr r (List.mem_append_right _ m)
    unfold boxT comb
    cases k with
    | true =>
      refine ⟨by show 1 ≤ _ + _; omega, ?_⟩
      show 1 ≤ mxI _ _
      unfold mxI
      split <;> omega
    | false =>
      refine ⟨?_, by show 1 ≤ _ + _; omega⟩
      show 1 ≤ mxI _ _
      unfold mxI
      split <;> omega
omit hx in
theorem t5_ok {n : Nat} {t : T} {L : List Bx} {sz : Nat → Bx} {ks : List (D × D)} (ht : TOk t n) (hL : L.length = n) (hb : ∀ p ∈ L, okB p) (hs : ∀ r < n, L[r]? = some (sz r)) (h12 : c 12 = iD (encT t)) (h7 : c 7 = iD (szD L)) (h8 : c 8 = iD (.dict ks)) (hd : DI (fb sz t) (lotsN n) ks) : ∃ S, Told sz t n S ∧ F_shapes [.imm (encT t), .imm (szD L)] = .ret (.tmp (S.map encS)) [.imm (encT t), .imm (szD L)] ∧ t5 (ST sc xs c) = .nx (ST sc xs (up (up c 4 (iD (.list ((S.map Sh.bx).map bxD)))) 2 (iD (.list (S.map encS))))) := by
  obtain ⟨S, hS, hF⟩ := shapes_ok ht hL hb hs
  obtain ⟨ps, k1, k2, k3⟩ := hd.key
  have hn := ht.n7
  have lks : ps.length ≤ 128 := by
    have e : ps.length = ks.length := by
      have := congrArg List.length k1
      rw [List.length_map, List.length_map] at this
      exact this.symm
    rw [e]
    refine Nat.le_trans hd.len ?_
    rw [lotsN_len]
    exact Nat.pow_le_pow_right (by decide : 0 < 2) hn
  have h0 : ∀ q ∈ ps, 0 ≤ q.1 ∧ 0 ≤ q.2 := fun q hq => by
    obtain ⟨l, _, rfl⟩ := (k3 q).mp hq
    have := box_pos (n := n) (sz := sz) (fun r hr => hb _ (List.mem_of_getElem? (hs r hr))) (fun r => decide (r ∈ l)) t (fun r hr => by rw [ht.rm] at hr; exact List.mem_range.mp hr)
    unfold fb
    omega
  have hl := least_ok k1 (mx_of (by omega))
  rw [same_boxes ht hS k2 k3 h0] at hl
  refine ⟨S, hS, hF, ?_⟩
  have q1 : fI (fCallF F__law_least (faCons (fName 8) faNil)) (ST sc xs c) = .ok (.imm (.list ((S.map Sh.bx).map bxD))) (ST sc xs c) := fI_tmp (callF_tmp (s1 := ST sc xs c) (rs := [.imm (.dict ks)]) (cons_ok (nm rfl h8) rfl) rfl rfl hl)
  have q2 : fI (fCallF F_shapes (faCons (fName 12) (faCons (fName 7) faNil))) (ST sc xs c) = .ok (.imm (.list (S.map encS))) (ST sc xs c) := fI_tmp (callF_tmp (s1 := ST sc xs c) (rs := [.imm (encT t), .imm (szD L)]) (cons_ok (nm rfl h12) (cons_ok (nm rfl h7) rfl)) rfl rfl hF)
  exact par2_nx q1 q2 (s3 := ST sc xs (up c 4 (iD (.list ((S.map Sh.bx).map bxD))))) (setD_of (x := c 4) rfl (hc 4)) (setD_of (x := c 2) rfl (hc 2))
end
/-! ### what the judge says, of lists of entries -/
structure OwnS (sz : Nat → Bx) (t : T) (n : Nat) (S O : List Sh) : Prop where
  bx : O.map Sh.bx = S.map Sh.bx
  lot : ∀ x ∈ O, Lot n x.l
  bxe : ∀ x ∈ O, fb sz t x.l = x.bx
section
variable {t : T} {n : Nat} {L : List Bx} {sz : Nat → Bx} {S O : List Sh} (ht : TOk t n) (hL : L.length = n) (hs : ∀ r < n, L[r]? = some (sz r)) (hF : F_shapes [.imm (encT t), .imm (szD L)] = .ret (.tmp (S.map encS)) [.imm (encT t), .imm (szD L)])
theorem zip_fst : ∀ {O S : List Sh}, O.length = S.length → ((O.zip S).map fun p => (encS p.1, p.2)).map Prod.fst = O.map encS ∧ ((O.zip S).map fun p => (encS p.1, p.2)).map Prod.snd = S
  | [], [], _ => ⟨rfl, rfl⟩
  | [], _ :: _, h => by cases h
  | _ :: _, [], h => by cases h
  | x :: O, y :: S, h => by
    obtain ⟨h1, h2⟩ := zip_fst (O := O) (S := S) (by simpa using h)
    exact ⟨congrArg (encS x :: ·) h1, congrArg (y :: ·) h2⟩
theorem zip_bx : ∀ {O S : List Sh}, O.map Sh.bx = S.map Sh.bx → ∀ p ∈ O.zip S, p.1 ∈ O ∧ p.1.bx = p.2.bx
  | [], S, _, p, hp => by cases hp
  | _ :: _, [], h, p, hp => by cases hp
  | x :: O, y :: S, h, p, hp => by
    rw [List.map_cons, List.map_cons] at h
    injection h with h1 h2
    rcases List.mem_cons.mp hp with rfl | hp
    · exact ⟨List.mem_cons_self .., h1⟩
    · obtain ⟨h3, h4⟩ := zip_bx h2 p hp
      exact ⟨List.mem_cons_of_mem _ h3, h4⟩
theorem own_len (h : O.map Sh.bx = S.map Sh.bx) : O.length = S.length := by
  have := congrArg List.length h
  rwa [List.length_map, List.length_map] at this
include ht hL hs
theorem own_yes (hO : OwnS sz t n S O) : ∀ p ∈ (O.zip S).map (fun p => (encS p.1, p.2)), Yes t L p.1 p.2 := fun p hp => by
  obtain ⟨q, hq, rfl⟩ := List.mem_map.mp hp
  obtain ⟨h1, h2⟩ := zip_bx hO.bx q hq
  exact yes_lot ht hL hs (hO.lot _ h1) h2 (hO.bxe _ h1)
include hF
theorem own_judged (hO : OwnS sz t n S O) : F_are_shapes [.imm (encT t), .imm (szD L), .imm (.list (O.map encS))] = .ret (.imm (.bool true)) [.imm (encT t), .imm (szD L), .imm (.list (O.map encS))] := by
  obtain ⟨h1, h2⟩ := zip_fst (own_len hO.bx)
  have q := judge_yes hF ((O.zip S).map fun p => (encS p.1, p.2)) h2 (own_yes ht hL hs hO)
  rw [h1] at q
  exact q
/-- one entry otherwise -/
theorem own_bent (hO : OwnS sz t n S O) {k : Nat} (hk : k < O.length) {d : D} (hn : ∀ x : Sh, x.bx = O[k].bx → No t L d x) : F_are_shapes [.imm (encT t), .imm (szD L), .imm (.list ((O.map encS).take k ++ [d] ++ (O.map encS).drop (k + 1)))] = .ret (.imm (.bool false)) [.imm (encT t), .imm (szD L), .imm (.list ((O.map encS).take k ++ [d] ++ (O.map encS).drop (k + 1)))] := by
  obtain ⟨h1, h2⟩ := zip_fst (own_len hO.bx)
  have hk2 : k < S.length := by rw [← own_len hO.bx]; exact hk
  let Z : List (D × Sh) := (O.zip S).map fun p => (encS p.1, p.2)
  have lZ : Z.length = O.length := by
    show ((O.zip S).map fun p => (encS p.1, p.2)).length = _
    rw [List.length_map, List.length_zip, own_len hO.bx, Nat.min_self]
  have hkZ : k < Z.length := by rw [lZ]; exact hk
  have eb : O[k].bx = S[k].bx := by
    have := congrArg (fun l => l[k]?) hO.bx
    simp only [List.getElem?_map, List.getElem?_eq_getElem hk, List.getElem?_eq_getElem hk2, Option.map_some, Option.some.injEq] at this
    exact this
  have eS : (Z.take k ++ (d, S[k]) :: Z.drop (k + 1)).map Prod.snd = S := by
    rw [List.map_append, List.map_cons, List.map_take, List.map_drop, h2]
    show S.take k ++ S[k] :: S.drop (k + 1) = S
    rw [← List.drop_eq_getElem_cons hk2, List.take_append_drop]
  have q := judge_no hF (Z.take k) (Z.drop (k + 1)) (d, S[k]) eS (fun p hp => own_yes ht hL hs hO p (List.mem_of_mem_take hp)) (hn _ eb.symm)
  have e1 : (Z.take k ++ (d, S[k]) :: Z.drop (k + 1)).map Prod.fst = (O.map encS).take k ++ [d] ++ (O.map encS).drop (k + 1) := by
    rw [List.map_append, List.map_cons, List.map_take, List.map_drop, h1, List.append_assoc]
    rfl
  rw [e1] at q
  exact q
/-- turned round -/
theorem own_rev (hS : Told sz t n S) (hO : OwnS sz t n S O) (h2 : 1 < O.length) : F_are_shapes [.imm (encT t), .imm (szD L), .imm (.list (O.map encS).reverse)] = .ret (.imm (.bool false)) [.imm (encT t), .imm (szD L), .imm (.list (O.map encS).reverse)] := by
  have hl := own_len hO.bx
  rw [← List.map_reverse]
  cases hr : O.reverse with
  | nil =>
    have := congrArg List.length hr
    rw [List.length_reverse, List.length_nil] at this
    omega
  | cons y R =>
    cases hs' : S with
    | nil => rw [hs', List.length_nil] at hl; omega
    | cons x S' =>
      have hR : R.length = S'.length := by
        have := congrArg List.length hr
        rw [List.length_reverse, hl, hs', List.length_cons, List.length_cons] at this
        omega
      obtain ⟨h3, h4⟩ := zip_fst hR
      have hy : y ∈ O := by rw [← List.mem_reverse, hr]; exact List.mem_cons_self ..
      have ey : O = R.reverse ++ [y] := by rw [← List.reverse_reverse O, hr, List.reverse_cons]
      have hne : y.bx ≠ x.bx := by
        have asc := hS.fr.asc
        rw [← hO.bx, ey, List.map_append] at asc
        have hb := hO.bx
        rw [ey, hs', List.map_append, List.map_cons] at hb
        cases hR2 : R.reverse with
        | nil =>
          have := congrArg List.length hR2
          rw [List.length_reverse, List.length_nil] at this
          rw [hs', List.length_cons] at hl
          omega
        | cons z R2 =>
          rw [hR2, List.map_cons, List.cons_append] at hb asc
          injection hb with hb _
          have := (List.pairwise_cons.mp asc).1 y.bx (by simp)
          rw [← hb]
          intro e
          rw [e] at this
          omega
      have hno : No t L (encS y) x := no_lot ht hL hs (w := y.w) (h := y.h) (hO.lot y hy) fun z => hne z.1
      have q := judge_no (S := S) hF [] ((R.zip S').map fun p => (encS p.1, p.2)) (encS y, x) (by rw [List.nil_append, List.map_cons, h4, hs']) (fun p hp => by cases hp) hno
      rw [List.nil_append, List.map_cons, h3] at q
      exact q
end
end DLP
end

set_option Elab.async false
set_option linter.all false
set_option pp.maxSteps 300
set_option maxRecDepth 100000
set_option maxHeartbeats 4000000
noncomputable section
namespace DLP
open PySem PySem.Spec PyProof.Rows DL
theorem eqv_lots : ∀ l m : List Nat, PyData.eqvAll (l.map natD) (m.map natD) = decide (l = m)
  | [], [] => rfl
  | [], _ :: _ => rfl
  | _ :: _, [] => rfl
  | x :: l, y :: m => by
    show (((x : Int) == (y : Int)) && PyData.eqvAll (l.map natD) (m.map natD)) = _
    rw [eqv_lots l m]
    by_cases h1 : x = y
    · subst h1
      simp
    · have : ((x : Int) == (y : Int)) = false := by rw [beq_eq_false_iff_ne]; omega
      rw [this, Bool.false_and, decide_eq_false (fun z => h1 (by injection z))]
theorem eqv_lotD (l m : List Nat) : PyData.eqv (lotD l) (lotD m) = decide (l = m) := eqv_lots l m
theorem lay_lots : ∀ l : List Nat, PyData.canLayAll0 (l.map natD) = true
  | [] => rfl
  | x :: l => by
    show (true && PyData.canLayAll0 (l.map natD)) = true
    rw [lay_lots l]
    rfl
theorem sh_lot (l : List Nat) : SeqAt.shaped (lotD l) = true := by
  unfold SeqAt.shaped
  rw [depth_lotD]
  show (PyData.canLayAll0 (l.map natD) && true) = true
  rw [lay_lots]
  rfl
theorem sh_lots (F : List (List Nat)) : SeqAt.shaped (.list (F.map lotD)) = true := by
  have h1 : PyData.canLayAll0 (F.map lotD) = true := by
    induction F with
    | nil => rfl
    | cons l F ih =>
      show (PyData.canLayAll0 (l.map natD) && PyData.canLayAll0 (F.map lotD)) = true
      rw [lay_lots, ih]
      rfl
  have h2 : PyData.depthAll (F.map lotD) ≤ 1 := by
    induction F with
    | nil => exact Nat.zero_le _
    | cons l F ih =>
      show max (PyData.depth (lotD l)) (PyData.depthAll (F.map lotD)) ≤ 1
      rw [depth_lotD]
      have := ih (by
        have h' : (PyData.canLayAll0 (l.map natD) && PyData.canLayAll0 (F.map lotD)) = true := h1
        rw [Bool.and_eq_true] at h'
        exact h'.2)
      omega
  unfold SeqAt.shaped
  rw [Bool.and_eq_true, decide_eq_true_eq]
  refine ⟨h1, ?_⟩
  show PyData.depthAll (F.map lotD) + 1 ≤ 64
  omega
theorem in_lots (b : Bool) (l : List Nat) (F : List (List Nat)) : hIn b (lotD l) (.list (F.map lotD)) = some (.val (.bool (if b then !decide (l ∈ F) else decide (l ∈ F)))) := by
  have e : memD (lotD l) (F.map lotD) = some (decide (l ∈ F)) := by
    show memG (lotD l) (F.map lotD) = _
    unfold memG
    rw [sh_lot, sh_lots]
    show some ((F.map lotD).any fun z => PyData.eqv z (lotD l)) = _
    rw [List.any_map]
    congr 1
    induction F with
    | nil => rfl
    | cons m F ih =>
      rw [List.any_cons, ih]
      show (PyData.eqv (lotD m) (lotD l) || _) = _
      rw [eqv_lotD]
      by_cases h : m = l
      · subst h
        simp
      · have h2 : l ≠ m := fun z => h z.symm
        simp [h, h2]
  show (memD (lotD l) (F.map lotD)).map _ = _
  rw [e]
  rfl
def lotsOf (sz : Nat → Bx) (t : T) (n : Nat) (p : Bx) : List (List Nat) := (lotsN n).filter fun l => decide (fb sz t l = p)
theorem di_ix {sz : Nat → Bx} {t : T} {n : Nat} {ks : List (D × D)} (hd : DI (fb sz t) (lotsN n) ks) {p : Bx} (h : ∃ l ∈ lotsN n, fb sz t l = p) : hDIx (.dict ks) (bxD p) = some (.val (.list ((lotsOf sz t n p).map lotD))) := by
  refine ix_dict ?_
  rw [hd.val, if_neg]
  · rfl
  · obtain ⟨l, h1, h2⟩ := h
    exact List.ne_nil_of_mem (List.mem_filter.mpr ⟨h1, decide_eq_true h2⟩)
theorem told_own {sz : Nat → Bx} {t : T} {n : Nat} {S : List Sh} (h : Told sz t n S) : OwnS sz t n S S := ⟨rfl, fun x hx => ⟨h.asc x hx, h.rm x hx⟩, h.bx⟩
theorem told_lot {sz : Nat → Bx} {t : T} {n : Nat} {S : List Sh} (h : Told sz t n S) {x : Sh} (hx : x ∈ S) : x.l ∈ lotsN n ∧ fb sz t x.l = x.bx := ⟨lotsN_all n _ ⟨h.asc x hx, h.rm x hx⟩, h.bx x hx⟩
theorem notB_tt : hNotB (.bool true) (.bool true) = some (.val (.bool false)) := rfl
section
variable {sc : D} {xs : List D} {c : Nat → Option DV} {t : T} {n : Nat} {L : List Bx} {sz : Nat → Bx} {S O : List Sh} {ks : List (D × D)} (ht : TOk t n) (hL : L.length = n) (hs : ∀ r < n, L[r]? = some (sz r)) (hF : F_shapes [.imm (encT t), .imm (szD L)] = .ret (.tmp (S.map encS)) [.imm (encT t), .imm (szD L)]) (hS : Told sz t n S) (hd : DI (fb sz t) (lotsN n) ks)
  (h12 : c 12 = iD (encT t)) (h7 : c 7 = iD (szD L)) (h8 : c 8 = iD (.dict ks)) (h2 : c 2 = iD (.list (S.map encS))) (h4 : c 4 = iD (.list ((S.map Sh.bx).map bxD))) (h5 : c 5 = iD (.list (O.map encS)))
include ht hL hs hF hS h12 h7 h2 h4 in
theorem t6_ok : t6 (ST sc xs c) = .nx (ST sc xs c) := by
  let s : SD := ST sc xs c
  refine ifS_f (s1 := s) ((or_f (s1 := s) (not_t (tr_ok (f1_val (s1 := s) (r1 := .imm (.list (S.map encS))) (nm rfl h2) rfl rfl) rfl))).trans ((or_f (s1 := s) (tr_ok (f2_val (s1 := s) (s2 := s) (r1 := .imm (.int (S.map encS).length)) (r2 := .imm (.int ((S.map Sh.bx).map bxD).length)) (x := .bool false) (call_val (s1 := s) (rs := [.imm (.list (S.map encS))]) (cons_ok (nm rfl h2) rfl) rfl rfl) (call_val (s1 := s) (rs := [.imm (.list ((S.map Sh.bx).map bxD))]) (cons_ok (nm rfl h4) rfl) rfl rfl) rfl rfl ?_) rfl)).trans (tr_ok (f2_val (s1 := s) (s2 := s) (r1 := .imm (.bool true)) (r2 := .imm (.bool true)) (callF_imm (s1 := s) (rs := [.imm (encT t), .imm (szD L), .imm (.list (S.map encS))]) (cons_ok (nm rfl h12) (cons_ok (nm rfl h7) (cons_ok (nm rfl h2) rfl))) rfl rfl (own_judged ht hL hs hF (told_own hS))) rfl rfl rfl notB_tt) rfl))) rfl
  rw [List.length_map, List.length_map, List.length_map]
  show some (PO.val (.bool !(decide _))) = _
  rw [decide_eq_true rfl]
  rfl
def b7 : FS := (fSeq (fIfS (fOr (fNot (fTr (f1 (hIs .tuple) (f2 hIx (fName 2) (fName 1))))) (fOr (fTr (f2 hNe (fCall hLen (faCons (f2 hIx (fName 2) (fName 1)) faNil)) (fImm (.int 3)))) (fNot (fTr (fCallF (F__law_kept 12) (faCons (fI (fSl (f2 hIx (fName 2) (fName 1)) foNone (foSome (fImm (.int 2))))) (faCons (f2 hIx (fName 4) (fName 1)) faNil))))))) (fRet (fImm (.bool false))) fNx) (fIfS (fOr (fNot (fTr (f1 (hIs .tuple) (f2 hIx (f2 hIx (fName 2) (fName 1)) (fImm (.int 2)))))) (fTr (f2 (hIn true) (f2 hIx (f2 hIx (fName 2) (fName 1)) (fImm (.int 2))) (f2 hDIx (fName 8) (f2 hIx (fName 4) (fName 1)))))) (fRet (fImm (.bool false))) fNx))
include hS hd h8 h2 h4 in
theorem b7_ok {r : Nat} (hr : r < S.length) : b7 (ST sc xs (up c 1 (iD (.int r)))) = .nx (ST sc xs (up c 1 (iD (.int r)))) := by
  let s : SD := ST sc xs (up c 1 (iD (.int r)))
  have i1 : hIx (.list (S.map encS)) (.int r) = some (.val (encS S[r])) := (ix_of (ds := S.map encS) (by rw [List.getElem?_map, List.getElem?_eq_getElem hr]; rfl)).2
  have i2 : hIx (.list ((S.map Sh.bx).map bxD)) (.int r) = some (.val (bxD S[r].bx)) := (ix_of (ds := (S.map Sh.bx).map bxD) (by rw [List.getElem?_map, List.getElem?_map, List.getElem?_eq_getElem hr]; rfl)).2
  have n2 : fName 2 s = .ok (.imm (.list (S.map encS))) s := nm rfl h2
  have n4 : fName 4 s = .ok (.imm (.list ((S.map Sh.bx).map bxD))) s := nm rfl h4
  have n8 : fName 8 s = .ok (.imm (.dict ks)) s := nm rfl h8
  have e1 : f2 hIx (fName 2) (fName 1) s = .ok (.imm (encS S[r])) s := f2_val (s1 := s) (r1 := .imm (.list (S.map encS))) (r2 := .imm (.int r)) n2 rfl rfl rfl i1
  have e2 : f2 hIx (fName 4) (fName 1) s = .ok (.imm (bxD S[r].bx)) s := f2_val (s1 := s) (r1 := .imm (.list ((S.map Sh.bx).map bxD))) (r2 := .imm (.int r)) n4 rfl rfl rfl i2
  have e3 : f2 hIx (f2 hIx (fName 2) (fName 1)) (fImm (.int 2)) s = .ok (.imm (lotD S[r].l)) s := f2_val (s1 := s) (r1 := .imm (encS S[r])) (r2 := .imm (.int 2)) e1 rfl rfl rfl (sx2 _)
  have e4 : fI (fSl (f2 hIx (fName 2) (fName 1)) foNone (foSome (fImm (.int 2)))) s = .ok (.imm (bxD S[r].bx)) s := by
    unfold fI fSl
    rw [e1, rbind_ok]
    rfl
  have tl := told_lot hS (List.getElem_mem hr)
  have e5 : f2 hDIx (fName 8) (f2 hIx (fName 4) (fName 1)) s = .ok (.imm (.list ((lotsOf sz t n S[r].bx).map lotD))) s := f2_val (s1 := s) (r1 := .imm (.dict ks)) (r2 := .imm (bxD S[r].bx)) n8 e2 rfl rfl (di_ix hd ⟨_, tl.1, tl.2⟩)
  have e6 : f2 (hIn true) (f2 hIx (f2 hIx (fName 2) (fName 1)) (fImm (.int 2))) (f2 hDIx (fName 8) (f2 hIx (fName 4) (fName 1))) s = .ok (.imm (.bool false)) s := by
    refine (f2_val (s1 := s) (r1 := .imm (lotD S[r].l)) (r2 := .imm (.list ((lotsOf sz t n S[r].bx).map lotD))) e3 e5 rfl rfl (in_lots true _ _)).trans ?_
    have : S[r].l ∈ lotsOf sz t n S[r].bx := List.mem_filter.mpr ⟨tl.1, decide_eq_true tl.2⟩
    rw [decide_eq_true this]
    rfl
  refine seq_nx (s1 := s) (ifS_f (s1 := s) ((or_f (s1 := s) (not_t (tr_ok (f1_val (s1 := s) (r1 := .imm (encS S[r])) e1 rfl rfl) rfl))).trans ((or_f (s1 := s) (tr_ok (f2_val (s1 := s) (r1 := .imm (.int 3)) (r2 := .imm (.int 3)) (call_val (s1 := s) (rs := [.imm (encS S[r])]) (cons_ok e1 rfl) rfl rfl) rfl rfl rfl rfl) rfl)).trans (not_t (tr_ok (callF_imm (s1 := s) (rs := [.imm (bxD S[r].bx), .imm (bxD S[r].bx)]) (cons_ok e4 (cons_ok e2 rfl)) rfl rfl (kept_refl 12 (bxD S[r].bx) rfl)) rfl)))) rfl) ?_
  exact ifS_f (s1 := s) ((or_f (s1 := s) (not_t (tr_ok (f1_val (s1 := s) (r1 := .imm (lotD S[r].l)) e3 rfl rfl) rfl))).trans (tr_ok e6 rfl)) rfl
include hS hd h8 h2 h4 in
theorem t7_ok (hc : Ims c) : ∃ v, isIm v ∧ t7 (ST sc xs c) = .nx (ST sc xs (up c 1 v)) := by
  have hl : S.length ≤ 128 := hS.len
  obtain ⟨s', q, v, hv, rfl⟩ := for_all (gg := gOne 1) (body := b7) natD (fun s => ∃ v, isIm v ∧ s = ST sc xs (up c 1 v)) (List.range' 0 S.length) (ST sc xs c) ⟨c 1, hc 1, by
    have : up c 1 (c 1) = c := by
      funext j
      unfold up
      split
      · rename_i h; rw [h]
      · rfl
    rw [this]⟩ (fun r hr s hI => by
    obtain ⟨v, hv, rfl⟩ := hI
    have hr' : r < S.length := by have := List.mem_range'_1.mp hr; omega
    refine ⟨ST sc xs (up c 1 (iD (.int r))), _, ?_, b7_ok hS hd h8 h2 h4 hr', _, isIm_imm _, rfl⟩
    show setD (ST sc xs (up c 1 v)) 1 (.imm (natD r)) = _
    rw [setD_of (x := v) rfl hv]
    rfl)
  refine ⟨v, hv, for_is (s1 := ST sc xs c) (ds := (List.range' 0 S.length).map natD) ?_ q⟩
  rw [← rgFrom_map]
  refine rng1_ok (cons_ok (s1 := ST sc xs c) ?_ rfl) (mx_of (by omega))
  refine (call_val (s1 := ST sc xs c) (rs := [.imm (.list ((S.map Sh.bx).map bxD))]) (x := .int ((S.map Sh.bx).map bxD).length) (cons_ok (nm rfl h4) rfl) rfl rfl).trans ?_
  rw [List.length_map, List.length_map]
end
def e8 : FE := (fTup (faCons (f2 hIx (fName 6) (fImm (.int 0))) (faCons (f2 hIx (fName 6) (fImm (.int 1))) (faCons (fI (fCallF F__law_some (faCons (fName 3) (faCons (f2 hDIx (fName 8) (fName 6)) faNil)))) faNil))))
theorem own_loop {sc : D} {t : T} {n : Nat} {sz : Nat → Bx} {ks : List (D × D)} (hn : n ≤ 7) (hd : DI (fb sz t) (lotsN n) ks) : ∀ (ss : List Sh) (xs : List D) (c : Nat → Option DV) (acc : List Sh), Hand xs → c 8 = iD (.dict ks) → (∀ x ∈ ss, ∃ l ∈ lotsN n, fb sz t l = x.bx) → acc.length + ss.length ≤ 1000 → c 6 = none → ∃ O xs', O.map Sh.bx = ss.map Sh.bx ∧ (∀ x ∈ O, x.l ∈ lotsN n ∧ fb sz t x.l = x.bx) ∧ Hand xs' ∧ loopC (gOne 6) fYes e8 [6] ((ss.map Sh.bx).map bxD) (ST sc xs c) (acc.map encS) = .ok ((acc ++ O).map encS) (ST sc xs' c)
  | [], xs, c, acc, hx, _, _, _, _ => ⟨[], xs, rfl, fun p hp => (by cases hp), hx, by rw [List.append_nil]; rfl⟩
  | x :: ss, xs, c, acc, hx, h8, hm, hl, h6 => by
    rw [List.length_cons] at hl
    let c1 : Nat → Option DV := up c 6 (iD (bxD x.bx))
    have ex := hm x (List.mem_cons_self ..)
    have l128 : (lotsOf sz t n x.bx).length ≤ 128 := by
      refine Nat.le_trans (List.length_filter_le _ _) ?_
      rw [lotsN_len]
      exact Nat.pow_le_pow_right (by decide : 0 < 2) hn
    have lpos : 1 ≤ (lotsOf sz t n x.bx).length := by
      obtain ⟨l, h1, h2⟩ := ex
      exact List.length_pos_of_mem (List.mem_filter.mpr ⟨h1, decide_eq_true h2⟩)
    have edi : f2 hDIx (fName 8) (fName 6) (ST sc xs c1) = .ok (.imm (.list ((lotsOf sz t n x.bx).map lotD))) (ST sc xs c1) := f2_val (s1 := ST sc xs c1) (r1 := .imm (.dict ks)) (r2 := .imm (bxD x.bx)) (nm rfl h8) rfl rfl rfl (di_ix hd ex)
    obtain ⟨k, d, xs1, hk, hx1, q1⟩ := some3 (sc := sc) (c := c1) (e := f2 hDIx (fName 8) (fName 6)) hx (ds := (lotsOf sz t n x.bx).map lotD) (by rw [List.length_map]; exact lpos) (by rw [List.length_map]; omega) edi
    obtain ⟨l, hl2, rfl⟩ : ∃ l, l ∈ lotsOf sz t n x.bx ∧ d = lotD l := by
      obtain ⟨l, h1, h2⟩ := List.mem_map.mp (List.mem_of_getElem? hk)
      exact ⟨l, h1, h2.symm⟩
    have hl3 := List.mem_filter.mp hl2
    obtain ⟨O, xs2, g1, g2, hx2, q⟩ := own_loop (sc := sc) hn hd ss xs1 c (acc ++ [⟨x.w, x.h, l⟩]) hx1 h8 (fun y hy => hm y (List.mem_cons_of_mem _ hy)) (by rw [List.length_append, List.length_singleton]; omega) h6
    refine ⟨⟨x.w, x.h, l⟩ :: O, xs2, by rw [List.map_cons, List.map_cons, g1]; rfl, fun y hy => ?_, hx2, ?_⟩
    · rcases List.mem_cons.mp hy with rfl | hy
      · exact ⟨hl3.1, of_decide_eq_true hl3.2⟩
      · exact g2 y hy
    · have hg : gOne 6 (bxD x.bx) (ST sc xs c) = some (ST sc xs c1) := by
        show setD (ST sc xs c) 6 (.imm (bxD x.bx)) = _
        rw [setD_of (x := c 6) rfl (.inl h6)]
        rfl
      have hw : wipeD (ST sc xs1 c1) [6] = ST sc xs1 c := by
        have : c = up c 6 none := by
          funext j
          unfold up
          split
          · rename_i h; rw [h, h6]
          · rfl
        conv => rhs; rw [this]
        rfl
      have e1 : e8 (ST sc xs c1) = .ok (.imm (encS ⟨x.w, x.h, l⟩)) (ST sc xs1 c1) := by
        have q4 : faCons (f2 hIx (fName 6) (fImm (.int 0))) (faCons (f2 hIx (fName 6) (fImm (.int 1))) (faCons (fI (fCallF F__law_some (faCons (fName 3) (faCons (f2 hDIx (fName 8) (fName 6)) faNil)))) faNil)) (ST sc xs c1) = .ok [.imm (.int x.w), .imm (.int x.h), .imm (lotD l)] (ST sc xs1 c1) := cons_ok (f2_val (s1 := ST sc xs c1) (r1 := .imm (bxD x.bx)) (r2 := .imm (.int 0)) rfl rfl rfl rfl rfl) (cons_ok (f2_val (s1 := ST sc xs c1) (r1 := .imm (bxD x.bx)) (r2 := .imm (.int 1)) rfl rfl rfl rfl rfl) (cons_ok (fI_imm q1) rfl))
        unfold e8 fTup
        rw [q4]
        rfl
      rw [List.map_cons, List.map_cons, loopC_cons, hg]
      dsimp only
      rw [show fYes (ST sc xs c1) = .ok true (ST sc xs c1) from rfl]
      dsimp only
      rw [e1]
      dsimp only
      rw [if_pos (by rw [List.length_map]; have : mx = 16000000 := rfl; omega), hw]
      rw [List.map_append, List.append_assoc, List.singleton_append] at q
      exact q
theorem t8_ok {sc : D} {xs : List D} {c : Nat → Option DV} {t : T} {n : Nat} {sz : Nat → Bx} {S : List Sh} {ks : List (D × D)} (hx : Hand xs) (hc : Ims c) (hn : n ≤ 7) (hS : Told sz t n S) (hd : DI (fb sz t) (lotsN n) ks) (h8 : c 8 = iD (.dict ks)) (h4 : c 4 = iD (.list ((S.map Sh.bx).map bxD))) : ∃ O xs', OwnS sz t n S O ∧ (∀ x ∈ O, x.l ∈ lotsN n) ∧ Hand xs' ∧ t8 (ST sc xs c) = .nx (ST sc xs' (up c 5 (iD (.list (O.map encS))))) := by
  have hl : S.length ≤ 128 := hS.len
  obtain ⟨O, xs', g1, g2, hx', q⟩ := own_loop (sc := sc) hn hd S xs (up c 6 none) [] hx h8 (fun x h => ⟨_, (told_lot hS h).1, (told_lot hS h).2⟩) (by rw [List.length_nil]; omega) rfl
  rw [List.nil_append] at q
  refine ⟨O, xs', ⟨g1, fun x h => lotsN_lot n _ (g2 x h).1, fun x h => (g2 x h).2⟩, fun x h => (g2 x h).1, hx', ?_⟩
  have lc : fLc (fIt (fName 4)) [6] (gOne 6) fYes e8 (ST sc xs c) = .ok (.tmp (O.map encS)) (ST sc xs' c) := by
    refine lc_ok (s1 := ST sc xs c) (s2 := ST sc xs' (up c 6 none)) (it_list (nm rfl h4)) ?_ q ?_
    · rw [List.all_cons, im_plain (x := c 6) rfl (hc 6)]
      rfl
    · show ST sc xs' (up (up c 6 none) 6 (c 6)) = _
      rw [up_back]
  exact setI_any (x := c 5) (s1 := ST sc xs' c) (fI_tmp lc) rfl (hc 5) rfl
section
variable {sc : D} {xs : List D} {c : Nat → Option DV} {t : T} {n : Nat} {L : List Bx} {sz : Nat → Bx} {S O : List Sh} (ht : TOk t n) (hL : L.length = n) (hs : ∀ r < n, L[r]? = some (sz r)) (hF : F_shapes [.imm (encT t), .imm (szD L)] = .ret (.tmp (S.map encS)) [.imm (encT t), .imm (szD L)]) (hO : OwnS sz t n S O) (h12 : c 12 = iD (encT t)) (h7 : c 7 = iD (szD L)) (h5 : c 5 = iD (.list (O.map encS)))
include ht hL hs hF hO h12 h7 h5 in
theorem t9_ok : t9 (ST sc xs c) = .nx (ST sc xs c) := by
  let s : SD := ST sc xs c
  exact ifS_f (s1 := s) (tr_ok (f2_val (s1 := s) (s2 := s) (r1 := .imm (.bool true)) (r2 := .imm (.bool true)) (callF_imm (s1 := s) (rs := [.imm (encT t), .imm (szD L), .imm (.list (O.map encS))]) (cons_ok (nm rfl h12) (cons_ok (nm rfl h7) (cons_ok (fI_tmp (call_ok (s1 := s) (rs := [.imm (.list (O.map encS))]) (o := .lst (O.map encS)) (cons_ok (nm rfl h5) rfl) rfl rfl)) rfl))) rfl rfl (own_judged ht hL hs hF hO)) rfl rfl rfl notB_tt) rfl) rfl
include h5 in
theorem t10_ok (hx : Hand xs) (hc : Ims c) (h1 : 1 ≤ O.length) (h2 : O.length ≤ 128) : ∃ k xs', k < O.length ∧ Hand xs' ∧ t10 (ST sc xs c) = .nx (ST sc xs' (up c 1 (iD (.int (k : Nat))))) := by
  obtain ⟨d, xs', d0, dn, hx', hF⟩ := draw3 (sc := sc) (c := c) (e := fCall hLen (faCons (fName 5) faNil)) hx (n := ((O.map encS).length : Int)) (by rw [List.length_map]; omega) (by rw [List.length_map]; omega) (call_val (s1 := ST sc xs c) (rs := [.imm (.list (O.map encS))]) (cons_ok (nm rfl h5) rfl) rfl rfl)
  obtain ⟨k, rfl⟩ : ∃ k : Nat, d = k := ⟨d.toNat, by omega⟩
  rw [List.length_map] at dn
  exact ⟨k, xs', by omega, hx', setI_ST (x := c 1) hF rfl (hc 1) rfl⟩
include h5 in
theorem t11_ok (hc : Ims c) {k : Nat} (hk : k < O.length) (h1 : c 1 = iD (.int k)) : t11 (ST sc xs c) = .nx (ST sc xs (up (up (up c 13 (iD (.int O[k].w))) 11 (iD (.int O[k].h))) 16 (iD (lotD O[k].l)))) := by
  have i1 : hIx (.list (O.map encS)) (.int k) = some (.val (encS O[k])) := (ix_of (ds := O.map encS) (by rw [List.getElem?_map, List.getElem?_eq_getElem hk]; rfl)).2
  have q : f2 hIx (fName 5) (fName 1) (ST sc xs c) = .ok (.imm (encS O[k])) (ST sc xs c) := f2_val (s1 := ST sc xs c) (r1 := .imm (.list (O.map encS))) (r2 := .imm (.int k)) (nm rfl h5) (nm rfl h1) rfl rfl i1
  unfold t11 fTgt R.stm
  rw [fI_imm q]
  dsimp only
  have g : gMany [13, 11, 16] (encS O[k]) (ST sc xs c) = some (ST sc xs (up (up (up c 13 (iD (.int O[k].w))) 11 (iD (.int O[k].h))) 16 (iD (lotD O[k].l)))) := by
    show ((setD (ST sc xs c) 13 (.imm (.int O[k].w))).bind fun s' => (setD s' 11 (.imm (.int O[k].h))).bind fun s' => (setD s' 16 (.imm (lotD O[k].l))).bind fun s' => some s') = _
    rw [setD_of rfl (hc 13)]
    show ((setD (setS (ST sc xs c) 13 (some (.imm (.int O[k].w)))) 11 (.imm (.int O[k].h))).bind fun s' => (setD s' 16 (.imm (lotD O[k].l))).bind fun s' => some s') = _
    rw [setD_of (x := c 11) rfl (hc 11)]
    show ((setD (setS (setS (ST sc xs c) 13 (some (.imm (.int O[k].w)))) 11 (some (.imm (.int O[k].h)))) 16 (.imm (lotD O[k].l))).bind fun s' => some s') = _
    rw [setD_of (x := c 16) rfl (hc 16)]
    rfl
  rw [g]
end
end DLP
end

set_option Elab.async false
set_option linter.all false
set_option pp.maxSteps 300
set_option maxRecDepth 100000
set_option maxHeartbeats 4000000
noncomputable section
namespace DLP
open PySem PySem.Spec PyProof.Rows DL
/-! ### the bent papers -/
section
variable {sc : D} {xs : List D} {c : Nat → Option DV} {OD : List D} {k : Nat} (h5 : c 5 = iD (.list OD)) (h1 : c 1 = iD (.int k)) (hk : OD.length ≤ 200)
include h5 h1 in
theorem cutA : fSl (fName 5) foNone (foSome (fName 1)) (ST sc xs c) = .ok (.tmp (OD.take k)) (ST sc xs c) := by
  have e : foSome (fName 1) (ST sc xs c) = .ok (some (k : Int)) (ST sc xs c) := by
    unfold foSome
    rw [nm (s := ST sc xs c) rfl h1]
    rfl
  exact slT_ok (s1 := ST sc xs c) (r := .imm (.list OD)) (nm rfl h5) e rfl
include h5 h1 in
theorem cutB : fSl (fName 5) (foSome (f2 hAdd (fName 1) (fImm (.int 1)))) foNone (ST sc xs c) = .ok (.tmp (OD.drop (k + 1))) (ST sc xs c) := by
  have e : foSome (f2 hAdd (fName 1) (fImm (.int 1))) (ST sc xs c) = .ok (some ((k + 1 : Nat) : Int)) (ST sc xs c) := by
    have a : f2 hAdd (fName 1) (fImm (.int 1)) (ST sc xs c) = .ok (.imm (.int ((k : Int) + 1))) (ST sc xs c) := f2_val (s1 := ST sc xs c) (s2 := ST sc xs c) (r1 := .imm (.int k)) (r2 := .imm (.int 1)) (nm rfl h1) rfl rfl rfl rfl
    unfold foSome
    rw [a]
    rfl
  exact slD_ok (s1 := ST sc xs c) (r := .imm (.list OD)) (nm rfl h5) e rfl
include h5 h1 hk in
theorem bentE {e : FE} {d : D} (he : e (ST sc xs c) = .ok (.imm d) (ST sc xs c)) : fI (f2 hAdd (f2 hAdd (fSl (fName 5) foNone (foSome (fName 1))) (fLst (faCons e faNil))) (fSl (fName 5) (foSome (f2 hAdd (fName 1) (fImm (.int 1)))) foNone)) (ST sc xs c) = .ok (.imm (.list (OD.take k ++ [d] ++ OD.drop (k + 1)))) (ST sc xs c) := by
  have l1 : (OD.take k).length ≤ 200 := by rw [List.length_take]; omega
  have l2 : (OD.drop (k + 1)).length ≤ 200 := by rw [List.length_drop]; omega
  have e2 : fLst (faCons e faNil) (ST sc xs c) = .ok (.tmp [d]) (ST sc xs c) := by
    have a : faCons e faNil (ST sc xs c) = .ok [.imm d] (ST sc xs c) := cons_ok he rfl
    unfold fLst
    rw [a]
    rfl
  have e3 : f2 hAdd (fSl (fName 5) foNone (foSome (fName 1))) (fLst (faCons e faNil)) (ST sc xs c) = .ok (.tmp (OD.take k ++ [d])) (ST sc xs c) := f2_ok (o := .lst (OD.take k ++ [d])) (cutA h5 h1) e2 rfl rfl (add_list (mx_of (by rw [List.length_singleton]; omega)))
  exact fI_tmp (f2_ok (o := .lst (OD.take k ++ [d] ++ OD.drop (k + 1))) e3 (cutB h5 h1) rfl rfl (add_list (mx_of (by rw [List.length_append, List.length_singleton]; omega))))
end
theorem tup_ok {fa : FA} {s s1 : SD} {rs : List RV} {ds : List D} (h : fa s = .ok rs s1) (h2 : allImm rs = some ds) (h3 : ds.length ≤ mx) : fTup fa s = .ok (.imm (.tuple ds)) s1 := by
  unfold fTup
  rw [h, rbind_ok]
  rw [h2]
  dsimp only
  rw [if_pos h3]
theorem lst_ok {fa : FA} {s s1 : SD} {rs : List RV} {ds : List D} (h : fa s = .ok rs s1) (h2 : allImm rs = some ds) (h3 : ds.length ≤ mx) : fLst fa s = .ok (.tmp ds) s1 := by
  unfold fLst
  rw [h, rbind_ok]
  rw [h2]
  dsimp only
  rw [if_pos h3]
theorem setO_own {e : FE} {i : Nat} {s s1 s2 : SD} {ds ys : List D} (h : e s = .ok (.tmp ds) s1) (hx : getS s1 i = some (some (.own ys))) (h2 : setS s1 i (some (.own ds)) = s2) : fSetO i e s = .nx s2 := by
  refine setO_nx h ?_
  unfold setD
  rw [hx, ← h2]
/-- the seven first -/
def bads1 (OD : List D) (k : Nat) (w h : Int) (l : List Nat) : List D := [.list (OD.take k ++ OD.drop (k + 1)), .list (OD ++ OD.take 1), .tuple OD, .list (OD.take k ++ [.tuple [.int w, .int (h + 1), lotD l]] ++ OD.drop (k + 1)), .none, .str "", .list (OD ++ [.none])]
def bads2 (OD : List D) (k : Nat) (w h : Int) (l : List Nat) : List D := [.list (OD.take k ++ [.tuple [.int w, .int h, .list (l.map natD)]] ++ OD.drop (k + 1)), .list (OD.take k ++ [.tuple [.int w, .int h]] ++ OD.drop (k + 1))]
def bads3 (OD : List D) (k n : Nat) (w h : Int) (l : List Nat) : List D := [.list (OD.take k ++ [.tuple [.int w, .int h, lotD (l ++ [n])]] ++ OD.drop (k + 1)), .list (OD.take k ++ [.tuple [.int (h + w), .int h, lotD l]] ++ OD.drop (k + 1))]
section
variable {sc : D} {xs : List D} {c : Nat → Option DV} {OD : List D} {k n : Nat} {w h : Int} {l : List Nat} (h5 : c 5 = iD (.list OD)) (h1 : c 1 = iD (.int k)) (h13 : c 13 = iD (.int w)) (h11 : c 11 = iD (.int h)) (h16 : c 16 = iD (lotD l)) (h10 : c 10 = iD (.int n)) (hk : OD.length ≤ 200) (hl : l.length ≤ 100)
include h5 h1 h13 h11 h16 hk in
theorem t12_ok (hc : isIm (c 14)) : t12 (ST sc xs c) = .nx (ST sc xs (up c 14 (some (.own (bads1 OD k w h l))))) := by
  let s : SD := ST sc xs c
  have n5 : fName 5 s = .ok (.imm (.list OD)) s := nm rfl h5
  have l1 : (OD.take k).length ≤ 200 := by rw [List.length_take]; omega
  have l2 : (OD.drop (k + 1)).length ≤ 200 := by rw [List.length_drop]; omega
  have l3 : (OD.take 1).length ≤ 200 := by rw [List.length_take]; omega
  have a1 : fI (f2 hAdd (fSl (fName 5) foNone (foSome (fName 1))) (fSl (fName 5) (foSome (f2 hAdd (fName 1) (fImm (.int 1)))) foNone)) s = .ok (.imm (.list (OD.take k ++ OD.drop (k + 1)))) s := fI_tmp (f2_ok (o := .lst (OD.take k ++ OD.drop (k + 1))) (cutA h5 h1) (cutB h5 h1) rfl rfl (add_list (mx_of (by omega))))
  have a2 : fI (f2 hAdd (fName 5) (fSl (fName 5) foNone (foSome (fImm (.int 1))))) s = .ok (.imm (.list (OD ++ OD.take 1))) s := fI_tmp (f2_ok (o := .lst (OD ++ OD.take 1)) n5 (slT_ok (k := 1) (s1 := s) (r := .imm (.list OD)) n5 rfl rfl) rfl rfl (add_list (mx_of (by omega))))
  have a3 : fCall hTuple (faCons (fName 5) faNil) s = .ok (.imm (.tuple OD)) s := call_ok (s1 := s) (rs := [.imm (.list OD)]) (o := .tup OD) (cons_ok n5 rfl) rfl rfl
  have a4 := bentE (sc := sc) (xs := xs) h5 h1 hk (e := fTup (faCons (fName 13) (faCons (fI (f2 hAdd (fName 11) (fImm (.int 1)))) (faCons (fName 16) faNil)))) (d := .tuple [.int w, .int (h + 1), lotD l]) (tup_ok (rs := [.imm (.int w), .imm (.int (h + 1)), .imm (lotD l)]) (cons_ok (nm rfl h13) (cons_ok (fI_imm (f2_val (s1 := s) (s2 := s) (r1 := .imm (.int h)) (r2 := .imm (.int 1)) (nm rfl h11) rfl rfl rfl rfl)) (cons_ok (nm rfl h16) rfl))) rfl (mx_of (by show 3 ≤ 1000; decide)))
  have a7 : fI (f2 hAdd (fName 5) (fLst (faCons (fImm .none) faNil))) s = .ok (.imm (.list (OD ++ [.none]))) s := fI_tmp (f2_ok (s1 := s) (r2 := .tmp [.none]) (o := .lst (OD ++ [.none])) n5 rfl rfl rfl (add_list (mx_of (by rw [List.length_singleton]; omega))))
  refine setO_nx (lst_ok (rs := [.imm (.list (OD.take k ++ OD.drop (k + 1))), .imm (.list (OD ++ OD.take 1)), .imm (.tuple OD), .imm (.list (OD.take k ++ [.tuple [.int w, .int (h + 1), lotD l]] ++ OD.drop (k + 1))), .imm .none, .imm (.str ""), .imm (.list (OD ++ [.none]))]) (ds := bads1 OD k w h l) (cons_ok a1 (cons_ok a2 (cons_ok a3 (cons_ok a4 (cons_ok (s1 := s) rfl (cons_ok (s1 := s) rfl (cons_ok a7 rfl))))))) rfl (mx_of (by show 7 ≤ 1000; decide))) ?_
  rw [setD_of (x := c 14) rfl hc]
  rfl
include h5 h1 h13 h11 h16 hk in
theorem t13_ok {ys : List D} (h14 : c 14 = some (.own ys)) (hy : ys.length ≤ 100) : t13 (ST sc xs c) = .nx (ST sc xs (up c 14 (some (.own (ys ++ bads2 OD k w h l))))) := by
  let s : SD := ST sc xs c
  have n14 : fName 14 s = .ok (.slot 14) s := by
    unfold fName
    rw [show getS s 14 = some (c 14) from rfl, h14]
  have v14 : view s (.slot 14) = some (.list ys) := by
    unfold view
    dsimp only
    rw [show getS s 14 = some (c 14) from rfl, h14]
  have a1 := bentE (sc := sc) (xs := xs) h5 h1 hk (e := fTup (faCons (fName 13) (faCons (fName 11) (faCons (fI (fCall hList (faCons (fName 16) faNil))) faNil)))) (d := .tuple [.int w, .int h, .list (l.map natD)]) (tup_ok (rs := [.imm (.int w), .imm (.int h), .imm (.list (l.map natD))]) (cons_ok (nm rfl h13) (cons_ok (nm rfl h11) (cons_ok (fI_tmp (call_ok (s1 := s) (rs := [.imm (lotD l)]) (o := .lst (l.map natD)) (cons_ok (nm rfl h16) rfl) rfl rfl)) rfl))) rfl (mx_of (by show 3 ≤ 1000; decide)))
  have a2 := bentE (sc := sc) (xs := xs) h5 h1 hk (e := fTup (faCons (fName 13) (faCons (fName 11) faNil))) (d := .tuple [.int w, .int h]) (tup_ok (rs := [.imm (.int w), .imm (.int h)]) (cons_ok (nm rfl h13) (cons_ok (nm rfl h11) rfl)) rfl (mx_of (by show 2 ≤ 1000; decide)))
  refine setO_own (ys := ys) (f2_ok (o := .lst (ys ++ bads2 OD k w h l)) n14 (lst_ok (rs := [.imm (.list (OD.take k ++ [.tuple [.int w, .int h, .list (l.map natD)]] ++ OD.drop (k + 1))), .imm (.list (OD.take k ++ [.tuple [.int w, .int h]] ++ OD.drop (k + 1)))]) (ds := bads2 OD k w h l) (cons_ok a1 (cons_ok a2 rfl)) rfl (mx_of (by show 2 ≤ 1000; decide))) v14 rfl (add_list (mx_of (by show ys.length + 2 ≤ 1000; omega)))) (by rw [show getS s 14 = some (c 14) from rfl, h14]) rfl
include h5 h1 h13 h11 h16 h10 hk hl in
theorem t14_ok {ys : List D} (h14 : c 14 = some (.own ys)) (hy : ys.length ≤ 100) : t14 (ST sc xs c) = .nx (ST sc xs (up c 14 (some (.own (ys ++ bads3 OD k n w h l))))) := by
  let s : SD := ST sc xs c
  have n14 : fName 14 s = .ok (.slot 14) s := by
    unfold fName
    rw [show getS s 14 = some (c 14) from rfl, h14]
  have v14 : view s (.slot 14) = some (.list ys) := by
    unfold view
    dsimp only
    rw [show getS s 14 = some (c 14) from rfl, h14]
  have eT : fTup (faCons (fName 10) faNil) s = .ok (.imm (lotD [n])) s := tup_ok (rs := [.imm (.int n)]) (cons_ok (nm rfl h10) rfl) rfl (mx_of (by show 1 ≤ 1000; decide))
  have a1 := bentE (sc := sc) (xs := xs) h5 h1 hk (e := fTup (faCons (fName 13) (faCons (fName 11) (faCons (fI (f2 hAdd (fName 16) (fTup (faCons (fName 10) faNil)))) faNil)))) (d := .tuple [.int w, .int h, lotD (l ++ [n])]) (tup_ok (rs := [.imm (.int w), .imm (.int h), .imm (lotD (l ++ [n]))]) (cons_ok (nm rfl h13) (cons_ok (nm rfl h11) (cons_ok (fI_imm (addT_ok (s1 := s) (nm rfl h16) eT (mx_of (by rw [List.length_singleton]; omega)))) rfl))) rfl (mx_of (by show 3 ≤ 1000; decide)))
  have a2 := bentE (sc := sc) (xs := xs) h5 h1 hk (e := fTup (faCons (fI (f2 hAdd (fName 11) (fName 13))) (faCons (fName 11) (faCons (fName 16) faNil)))) (d := .tuple [.int (h + w), .int h, lotD l]) (tup_ok (rs := [.imm (.int (h + w)), .imm (.int h), .imm (lotD l)]) (cons_ok (fI_imm (f2_val (s1 := s) (s2 := s) (r1 := .imm (.int h)) (r2 := .imm (.int w)) (nm rfl h11) (nm rfl h13) rfl rfl rfl)) (cons_ok (nm rfl h11) (cons_ok (nm rfl h16) rfl))) rfl (mx_of (by show 3 ≤ 1000; decide)))
  refine setO_own (ys := ys) (f2_ok (o := .lst (ys ++ bads3 OD k n w h l)) n14 (lst_ok (rs := [.imm (.list (OD.take k ++ [.tuple [.int w, .int h, lotD (l ++ [n])]] ++ OD.drop (k + 1))), .imm (.list (OD.take k ++ [.tuple [.int (h + w), .int h, lotD l]] ++ OD.drop (k + 1)))]) (ds := bads3 OD k n w h l) (cons_ok a1 (cons_ok a2 rfl)) rfl (mx_of (by show 2 ≤ 1000; decide))) v14 rfl (add_list (mx_of (by show ys.length + 2 ≤ 1000; omega)))) (by rw [show getS s 14 = some (c 14) from rfl, h14]) rfl
include h5 in
theorem t15_ok {ys : List D} (h14 : c 14 = some (.own ys)) (hy : ys.length ≤ 100) : ∃ zs, t15 (ST sc xs c) = .nx (ST sc xs (up c 14 (some (.own zs)))) ∧ (zs = ys ∨ (1 < OD.length ∧ zs = ys ++ [.list OD.reverse])) := by
  let s : SD := ST sc xs c
  have n5 : fName 5 s = .ok (.imm (.list OD)) s := nm rfl h5
  have cnd : (fTr (f2 hGt (fCall hLen (faCons (fName 5) faNil)) (fImm (.int 1)))) s = .ok (decide (1 < OD.length)) s := by
    refine tr_ok (f2_val (s1 := s) (r1 := .imm (.int OD.length)) (r2 := .imm (.int 1)) (x := .bool (decide (1 < OD.length))) (call_val (s1 := s) (rs := [.imm (.list OD)]) (cons_ok n5 rfl) rfl rfl) rfl rfl rfl ?_) rfl
    show some (PO.val (.bool (decide ((1 : Int) < (OD.length : Nat))))) = _
    rw [show decide ((1 : Int) < (OD.length : Nat)) = decide (1 < OD.length) from decide_eq_decide.mpr (by omega)]
  by_cases hlen : 1 < OD.length
  · rw [decide_eq_true hlen] at cnd
    refine ⟨ys ++ [.list OD.reverse], ifS_t cnd ?_, .inr ⟨hlen, rfl⟩⟩
    have g14 : getS s 14 = some (some (.own ys)) := by rw [show getS s 14 = some (c 14) from rfl, h14]
    have er : fRevL (fName 5) s = .ok (.tmp OD.reverse) s := by
      unfold fRevL
      rw [n5]
      rfl
    have ap : fApp 14 (fRevL (fName 5)) s = .nx (setS s 14 (some (.own (ys ++ [.list OD.reverse])))) := by
      unfold fApp view
      dsimp only
      rw [g14]
      dsimp only
      rw [fI_tmp er]
      unfold R.stm
      dsimp only
      unfold setC
      rw [g14]
      dsimp only
      rw [if_pos (by have : mx = 16000000 := rfl; omega)]
      rfl
    exact ap
  · rw [decide_eq_false hlen] at cnd
    refine ⟨ys, ifS_f cnd ?_, .inl rfl⟩
    have : up c 14 (some (.own ys)) = c := by
      funext j
      unfold up
      split
      · rename_i e; rw [e, h14]
      · rfl
    rw [this]
    rfl
end
/-! ### each of them is no paper -/
section
variable {t : T} {n : Nat} {L : List Bx} {sz : Nat → Bx} {S O : List Sh} (ht : TOk t n) (hL : L.length = n) (hs : ∀ r < n, L[r]? = some (sz r)) (hF : F_shapes [.imm (encT t), .imm (szD L)] = .ret (.tmp (S.map encS)) [.imm (encT t), .imm (szD L)]) (hS : Told sz t n S) (hO : OwnS sz t n S O) (hp : ∀ x ∈ S, 1 ≤ x.w ∧ 1 ≤ x.h) {k : Nat} (hk : k < O.length)
def Bad (t : T) (L : List Bx) (d : D) : Prop := F_are_shapes [.imm (encT t), .imm (szD L), .imm d] = .ret (.imm (.bool false)) [.imm (encT t), .imm (szD L), .imm d]
include ht hL hs hF hO in
theorem bad_len {A : List D} (h : A.length ≠ O.length) : Bad t L (.list A) := judge_len hF (by rw [← own_len hO.bx]; exact h)
include ht hL hs hF hO hk in
theorem bad_mid {d : D} (hn : ∀ x : Sh, x.bx = O[k].bx → No t L d x) : Bad t L (.list ((O.map encS).take k ++ [d] ++ (O.map encS).drop (k + 1))) := own_bent ht hL hs hF hO hk hn
include ht hL hs hF hS hO hp hk in
theorem bads_all : ∀ zs : List D, (zs = bads1 (O.map encS) k O[k].w O[k].h O[k].l ++ bads2 (O.map encS) k O[k].w O[k].h O[k].l ++ bads3 (O.map encS) k n O[k].w O[k].h O[k].l ∨ (1 < (O.map encS).length ∧ zs = bads1 (O.map encS) k O[k].w O[k].h O[k].l ++ bads2 (O.map encS) k O[k].w O[k].h O[k].l ++ bads3 (O.map encS) k n O[k].w O[k].h O[k].l ++ [.list (O.map encS).reverse])) → ∀ d ∈ zs, Bad t L d := by
  have lO : (O.map encS).length = O.length := List.length_map ..
  have hx := List.getElem_mem hk
  have hlot := hO.lot _ hx
  have pos : 1 ≤ O[k].w ∧ 1 ≤ O[k].h := by
    have : O[k].bx ∈ S.map Sh.bx := by rw [← hO.bx]; exact List.mem_map.mpr ⟨_, hx, rfl⟩
    obtain ⟨y, hy, e⟩ := List.mem_map.mp this
    have h1 := hp y hy
    have e1 : y.w = O[k].w := congrArg Prod.fst e
    have e2 : y.h = O[k].h := congrArg Prod.snd e
    omega
  have l7 := asc_len hlot
  have n7 := ht.n7
  have base : ∀ d ∈ bads1 (O.map encS) k O[k].w O[k].h O[k].l ++ bads2 (O.map encS) k O[k].w O[k].h O[k].l ++ bads3 (O.map encS) k n O[k].w O[k].h O[k].l, Bad t L d := by
    intro d hd
    simp only [bads1, bads2, bads3, List.cons_append, List.nil_append, List.mem_cons, List.not_mem_nil, or_false] at hd
    rcases hd with rfl | rfl | rfl | rfl | rfl | rfl | rfl | rfl | rfl | rfl | rfl
    · exact bad_len ht hL hs hF hO (by rw [List.length_append, List.length_take, List.length_drop, lO]; omega)
    · exact bad_len ht hL hs hF hO (by rw [List.length_append, List.length_take, lO]; omega)
    · exact judge_kind hF rfl
    · exact bad_mid ht hL hs hF hO hk fun x ex => no_lot ht hL hs hlot fun z => by
        have e1 : O[k].h + 1 = x.h := congrArg Prod.snd z.1
        have e2 : x.h = O[k].h := congrArg Prod.snd ex
        omega
    · exact judge_kind hF rfl
    · exact judge_kind hF rfl
    · exact bad_len ht hL hs hF hO (by rw [List.length_append, lO, List.length_singleton]; omega)
    · exact bad_mid ht hL hs hF hO hk fun x ex => no_third ht hL lot_list
    · exact bad_mid ht hL hs hF hO hk fun x ex => no_two
    · exact bad_mid ht hL hs hF hO hk fun x ex => no_third ht hL (lot_out n7 (by rw [List.length_append, List.length_singleton]; omega) ⟨n, by simp, by omega⟩)
    · exact bad_mid ht hL hs hF hO hk fun x ex => no_lot ht hL hs hlot fun z => by
        have e1 : O[k].h + O[k].w = x.w := congrArg Prod.fst z.1
        have e2 : x.w = O[k].w := congrArg Prod.fst ex
        omega
  intro zs hz d hd
  rcases hz with rfl | ⟨hl, rfl⟩
  · exact base d hd
  · rcases List.mem_append.mp hd with hd | hd
    · exact base d hd
    · rw [List.mem_singleton.mp hd]
      exact own_rev ht hL hs hF hS hO (by rw [lO] at hl; exact hl)
end
end DLP
end

set_option Elab.async false
set_option linter.all false
set_option pp.maxSteps 300
set_option maxRecDepth 100000
set_option maxHeartbeats 4000000
noncomputable section
namespace DLP
open PySem PySem.Spec PyProof.Rows DL
theorem notB_ff : hNotB (.bool false) (.bool false) = some (.val (.bool false)) := rfl
theorem frz_ST {sc : D} {xs zs : List D} {c : Nat → Option DV} (h : c 14 = some (.own zs)) : frz 14 (ST sc xs c) = ST sc xs (up c 14 (iD (.list zs))) := by
  unfold frz
  rw [show (ST sc xs c)[14]? = some (c 14) from rfl, h]
  rfl
section
variable {sc : D} {xs : List D} {c : Nat → Option DV} {t : T} {n : Nat} {L : List Bx} {sz : Nat → Bx} {S O : List Sh} {ks : List (D × D)} (ht : TOk t n) (hL : L.length = n) (hs : ∀ r < n, L[r]? = some (sz r)) (hF : F_shapes [.imm (encT t), .imm (szD L)] = .ret (.tmp (S.map encS)) [.imm (encT t), .imm (szD L)]) (hO : OwnS sz t n S O) (hOl : ∀ x ∈ O, x.l ∈ lotsN n) (hd : DI (fb sz t) (lotsN n) ks) {k : Nat} (hk : k < O.length)
  (h12 : c 12 = iD (encT t)) (h7 : c 7 = iD (szD L)) (h8 : c 8 = iD (.dict ks)) (h5 : c 5 = iD (.list (O.map encS))) (h1 : c 1 = iD (.int k)) (hx : Hand xs)
include h12 h7 hx in
theorem t16_ok {zs : List D} (h14 : c 14 = iD (.list zs)) (hz1 : 1 ≤ zs.length) (hz2 : zs.length ≤ 1000) (hz : ∀ d ∈ zs, Bad t L d) : ∃ xs', Hand xs' ∧ t16 (ST sc xs c) = .nx (ST sc xs' c) := by
  obtain ⟨k, d, xs', hk, hx', q⟩ := some3 (sc := sc) (c := c) (e := fName 14) hx (ds := zs) hz1 (by omega) (nm rfl h14)
  have hb := hz d (List.mem_of_getElem? hk)
  refine ⟨xs', hx', ?_⟩
  exact ifS_f (s1 := ST sc xs' c) (tr_ok (f2_val (s1 := ST sc xs' c) (s2 := ST sc xs' c) (r1 := .imm (.bool false)) (r2 := .imm (.bool false)) (callF_imm (s1 := ST sc xs' c) (rs := [.imm (encT t), .imm (szD L), .imm d]) (cons_ok (nm (s := ST sc xs c) rfl h12) (cons_ok (nm (s := ST sc xs c) rfl h7) (cons_ok (fI_imm q) rfl))) rfl rfl hb) rfl rfl rfl notB_ff) rfl) rfl
include ht hd h8 hx in
theorem t17_ok (hc : Ims c) : ∃ l xs', l ∈ lotsN n ∧ Hand xs' ∧ t17 (ST sc xs c) = .nx (ST sc xs' (up c 18 (iD (lotD l)))) := by
  obtain ⟨ps, k1, k2, k3⟩ := hd.key
  have hn := ht.n7
  have lks : ps.length ≤ 128 := by
    have e : ps.length = ks.length := by
      have := congrArg List.length k1
      rw [List.length_map, List.length_map] at this
      exact this.symm
    rw [e]
    refine Nat.le_trans hd.len ?_
    rw [lotsN_len]
    exact Nat.pow_le_pow_right (by decide : 0 < 2) hn
  have lpos : 1 ≤ ps.length := by
    have : fb sz t [] ∈ ps := (k3 _).mpr ⟨[], lotsN_all n [] ⟨.nil, fun r hr => by cases hr⟩, rfl⟩
    exact List.length_pos_of_mem this
  have es : fI (fSortD (fName 8)) (ST sc xs c) = .ok (.imm (.list ((srtB ps).map bxD))) (ST sc xs c) := by
    refine fI_tmp ?_
    unfold fSortD
    rw [nm (s := ST sc xs c) rfl h8, rbind_ok]
    show (if isKd ks = true then _ else if okS (ks.map Prod.fst) = true then R.ok (RV.tmp (sortD (ks.map Prod.fst))) _ else _) = _
    rw [if_neg (by rw [isKd_of k1]; exact Bool.false_ne_true), k1, if_pos (okS_B (mx_of (by omega))), sortD_map]
    rfl
  obtain ⟨i, d, xs1, hi, hx1, q1⟩ := some3 (sc := sc) (c := c) (e := fI (fSortD (fName 8))) hx (ds := (srtB ps).map bxD) (by rw [List.length_map]; unfold srtB; rw [sortB_len]; exact lpos) (by rw [List.length_map]; unfold srtB; rw [sortB_len]; omega) es
  obtain ⟨p, hp, rfl⟩ : ∃ p, p ∈ ps ∧ d = bxD p := by
    obtain ⟨p, h1, h2⟩ := List.mem_map.mp (List.mem_of_getElem? hi)
    exact ⟨p, sortB_mem.mp h1, h2.symm⟩
  have ex := (k3 p).mp hp
  have e2 : f2 hDIx (fName 8) (fCallF F__law_some (faCons (fName 3) (faCons (fI (fSortD (fName 8))) faNil))) (ST sc xs c) = .ok (.imm (.list ((lotsOf sz t n p).map lotD))) (ST sc xs1 c) := f2_val (s1 := ST sc xs c) (r1 := .imm (.dict ks)) (r2 := .imm (bxD p)) (nm rfl h8) q1 rfl rfl (di_ix hd ex)
  have l128 : (lotsOf sz t n p).length ≤ 128 := by
    refine Nat.le_trans (List.length_filter_le _ _) ?_
    rw [lotsN_len]
    exact Nat.pow_le_pow_right (by decide : 0 < 2) hn
  have lp2 : 1 ≤ (lotsOf sz t n p).length := by
    obtain ⟨l, h1, h2⟩ := ex
    exact List.length_pos_of_mem (List.mem_filter.mpr ⟨h1, decide_eq_true h2⟩)
  obtain ⟨j, d, xs2, hj, hx2, q2⟩ := some3 (sc := sc) (xs := xs) (c := c) (e := f2 hDIx (fName 8) (fCallF F__law_some (faCons (fName 3) (faCons (fI (fSortD (fName 8))) faNil)))) hx1 (ds := (lotsOf sz t n p).map lotD) (by rw [List.length_map]; exact lp2) (by rw [List.length_map]; omega) e2
  obtain ⟨l, hl, rfl⟩ : ∃ l, l ∈ lotsOf sz t n p ∧ d = lotD l := by
    obtain ⟨l, h1, h2⟩ := List.mem_map.mp (List.mem_of_getElem? hj)
    exact ⟨l, h1, h2.symm⟩
  exact ⟨l, xs2, (List.mem_filter.mp hl).1, hx2, setI_ST (x := c 18) q2 rfl (hc 18) rfl⟩
include ht hL hs hF hO hOl hd hk h12 h7 h8 h5 h1 in
theorem t18_ok {l : List Nat} (hl : l ∈ lotsN n) (h18 : c 18 = iD (lotD l)) (h13 : c 13 = iD (.int O[k].w)) (h11 : c 11 = iD (.int O[k].h)) (hlen : O.length ≤ 200) : t18 (ST sc xs c) = .nx (ST sc xs c) := by
  let s : SD := ST sc xs c
  have hxk := List.getElem_mem hk
  have a1 := bentE (sc := sc) (xs := xs) h5 h1 (by rw [List.length_map]; exact hlen) (e := fTup (faCons (fName 13) (faCons (fName 11) (faCons (fName 18) faNil)))) (d := .tuple [.int O[k].w, .int O[k].h, lotD l]) (tup_ok (rs := [.imm (.int O[k].w), .imm (.int O[k].h), .imm (lotD l)]) (cons_ok (nm rfl h13) (cons_ok (nm rfl h11) (cons_ok (nm rfl h18) rfl))) rfl (mx_of (by show 3 ≤ 1000; decide)))
  have hlot := lotsN_lot n l hl
  have judged : F_are_shapes [.imm (encT t), .imm (szD L), .imm (.list ((O.map encS).take k ++ [.tuple [.int O[k].w, .int O[k].h, lotD l]] ++ (O.map encS).drop (k + 1)))] = .ret (.imm (.bool (decide (fb sz t l = O[k].bx)))) [.imm (encT t), .imm (szD L), .imm (.list ((O.map encS).take k ++ [.tuple [.int O[k].w, .int O[k].h, lotD l]] ++ (O.map encS).drop (k + 1)))] := by
    by_cases hb : fb sz t l = O[k].bx
    · rw [decide_eq_true hb]
      have e : (O.map encS).take k ++ [.tuple [.int O[k].w, .int O[k].h, lotD l]] ++ (O.map encS).drop (k + 1) = (O.take k ++ [(⟨O[k].w, O[k].h, l⟩ : Sh)] ++ O.drop (k + 1)).map encS := by
        rw [List.map_append, List.map_append, List.map_take, List.map_drop]
        rfl
      rw [e]
      refine own_judged ht hL hs hF ⟨?_, fun x hx => ?_, fun x hx => ?_⟩
      · rw [← hO.bx, List.map_append, List.map_append]
        have e2 : O = O.take k ++ [O[k]] ++ O.drop (k + 1) := by
          rw [List.append_assoc, List.singleton_append, ← List.drop_eq_getElem_cons hk, List.take_append_drop]
        have e3 := congrArg (List.map Sh.bx) e2
        rw [List.map_append, List.map_append] at e3
        rw [e3]
        rfl
      · rw [List.append_assoc, List.mem_append, List.mem_append, List.mem_singleton] at hx
        rcases hx with hx | rfl | hx
        · exact hO.lot x (List.mem_of_mem_take hx)
        · exact hlot
        · exact hO.lot x (List.mem_of_mem_drop hx)
      · rw [List.append_assoc, List.mem_append, List.mem_append, List.mem_singleton] at hx
        rcases hx with hx | rfl | hx
        · exact hO.bxe x (List.mem_of_mem_take hx)
        · exact hb
        · exact hO.bxe x (List.mem_of_mem_drop hx)
    · rw [decide_eq_false hb]
      exact own_bent ht hL hs hF hO hk fun x ex => no_lot ht hL hs hlot fun z => hb z.2
  have a2 : fI (fCallF F_are_shapes (faCons (fName 12) (faCons (fName 7) (faCons (fI (f2 hAdd (f2 hAdd (fSl (fName 5) foNone (foSome (fName 1))) (fLst (faCons (fTup (faCons (fName 13) (faCons (fName 11) (faCons (fName 18) faNil)))) faNil))) (fSl (fName 5) (foSome (f2 hAdd (fName 1) (fImm (.int 1)))) foNone))) faNil)))) s = .ok (.imm (.bool (decide (fb sz t l = O[k].bx)))) s := fI_imm (callF_imm (s1 := s) (cons_ok (nm rfl h12) (cons_ok (nm rfl h7) (cons_ok a1 rfl))) rfl rfl judged)
  have edi : f2 hDIx (fName 8) (fTup (faCons (fName 13) (faCons (fName 11) faNil))) s = .ok (.imm (.list ((lotsOf sz t n O[k].bx).map lotD))) s := f2_val (s1 := s) (r1 := .imm (.dict ks)) (r2 := .imm (bxD O[k].bx)) (nm rfl h8) (tup_ok (rs := [.imm (.int O[k].w), .imm (.int O[k].h)]) (cons_ok (nm rfl h13) (cons_ok (nm rfl h11) rfl)) rfl (mx_of (by show 2 ≤ 1000; decide))) rfl rfl (di_ix hd ⟨_, hOl _ hxk, hO.bxe _ hxk⟩)
  have emem : decide (l ∈ lotsOf sz t n O[k].bx) = decide (fb sz t l = O[k].bx) := decide_eq_decide.mpr ⟨fun z => of_decide_eq_true (List.mem_filter.mp z).2, fun z => List.mem_filter.mpr ⟨hl, decide_eq_true z⟩⟩
  have ein : f2 (hIn false) (fName 18) (f2 hDIx (fName 8) (fTup (faCons (fName 13) (faCons (fName 11) faNil)))) s = .ok (.imm (.bool (decide (fb sz t l = O[k].bx)))) s := by
    refine (f2_val (s1 := s) (r1 := .imm (lotD l)) (r2 := .imm (.list ((lotsOf sz t n O[k].bx).map lotD))) (nm rfl h18) edi rfl rfl (in_lots false _ _)).trans ?_
    rw [emem]
    rfl
  exact ifS_f (s1 := s) (not_t (tr_ok (callF_imm (s1 := s) (rs := [.imm (.bool (decide (fb sz t l = O[k].bx))), .imm (.bool (decide (fb sz t l = O[k].bx)))]) (cons_ok a2 (cons_ok ein rfl)) rfl rfl (kept_refl 12 (.bool (decide (fb sz t l = O[k].bx))) rfl)) rfl)) rfl
end
/-! ### wrong sizes -/
theorem addTup_ok {e e2 : FE} {s s1 s2 : SD} {xs ys : List D} (ha : e s = .ok (.imm (.tuple xs)) s1) (hb : e2 s1 = .ok (.imm (.tuple ys)) s2) (h : xs.length + ys.length ≤ mx) : f2 hAdd e e2 s = .ok (.imm (.tuple (xs ++ ys))) s2 := by
  cases xs with
  | nil =>
    have e0 : hAdd (.tuple []) (.tuple ys) = some (.val (.tuple ys)) := if_pos h
    exact f2_ok ha hb rfl rfl e0
  | cons x xs =>
    cases ys with
    | nil =>
      have e0 : hAdd (.tuple (x :: xs)) (.tuple []) = some (.val (.tuple (x :: xs))) := if_pos h
      rw [List.append_nil]
      exact f2_ok ha hb rfl rfl e0
    | cons y ys =>
      have e0 : hAdd (.tuple (x :: xs)) (.tuple (y :: ys)) = some (.tup (x :: xs ++ y :: ys)) := if_pos h
      exact f2_ok ha hb rfl rfl e0
theorem slTup_drop {e : FE} {s s1 : SD} {ds : List D} (h : e s = .ok (.imm (.tuple ds)) s1) (hl : 1 ≤ ds.length) : fSl e (foSome (fImm (.int 1))) foNone s = .ok (.imm (.tuple (ds.drop 1))) s1 := by
  have q : hSl (.tuple ds) (some 1) none none = some (.tup (ds.drop 1)) := by
    show (if HT.sIx ds.length 0 (some ((1 : Nat) : Int)) = 0 ∧ _ then _ else some (PO.tup (DL.cutD ds (some ((1 : Nat) : Int)) none))) = _
    rw [if_neg (by
      rw [HT.sIx_nat]
      rintro ⟨z, _⟩
      have : min 1 ds.length = 1 := Nat.min_eq_left hl
      omega), cut_drop]
  unfold fSl
  rw [h, rbind_ok]
  show oR s1 (hSl (.tuple ds) (some 1) none none) = _
  rw [q]
  rfl
theorem slTup_take {e : FE} {s s1 : SD} {ds : List D} (h : e s = .ok (.imm (.tuple ds)) s1) : fSl e foNone (foSome (fImm (.int 1))) s = .ok (.imm (.tuple (ds.take 1))) s1 := by
  unfold fSl
  rw [h, rbind_ok]
  show oR s1 (hSl (.tuple ds) none (some ((1 : Nat) : Int)) none) = _
  unfold hSl
  dsimp only
  by_cases hc : HT.sIx ds.length 0 none = 0 ∧ HT.sIx ds.length ds.length (some ((1 : Nat) : Int)) = ds.length
  · rw [if_pos hc]
    have h2 := hc.2
    rw [HT.sIx_nat] at h2
    rw [List.take_of_length_le (by omega)]
    rfl
  · rw [if_neg hc, cut_take]
    rfl
def wr1 (Z : List D) : List D := [.list Z, .tuple (Z.drop 1), .tuple (Z ++ Z.take 1), .none, .tuple ([.tuple [.int 0, .int 1]] ++ Z.drop 1), .tuple ([.tuple [.int 1, .bool true]] ++ Z.drop 1), .tuple ([.tuple [.int 1]] ++ Z.drop 1), .int 0]
def wr2 (Z : List D) : List D := [.tuple ([.tuple [.int 1000000001, .int 1]] ++ Z.drop 1), .tuple ([.list [.int 1, .int 1]] ++ Z.drop 1), .tuple ([.none] ++ Z.drop 1)]
section
variable {sc : D} {xs : List D} {c : Nat → Option DV} {Z : List D} (h7 : c 7 = iD (.tuple Z)) (hz1 : 1 ≤ Z.length) (hz2 : Z.length ≤ 100) (hc : isIm (c 17))
include h7 hz1 hz2 in
theorem wrE {d : D} {e : FE} (he : e (ST sc xs c) = .ok (.imm d) (ST sc xs c)) : fI (f2 hAdd (fTup (faCons e faNil)) (fSl (fName 7) (foSome (fImm (.int 1))) foNone)) (ST sc xs c) = .ok (.imm (.tuple ([d] ++ Z.drop 1))) (ST sc xs c) := by
  have l1 : (Z.drop 1).length ≤ 100 := by rw [List.length_drop]; omega
  exact fI_imm (addTup_ok (s1 := ST sc xs c) (xs := [d]) (tup_ok (rs := [.imm d]) (cons_ok he rfl) rfl (mx_of (by show 1 ≤ 1000; decide))) (slTup_drop (nm rfl h7) hz1) (mx_of (by rw [List.length_singleton]; omega)))
include h7 hz1 hz2 hc in
theorem t19_ok : t19 (ST sc xs c) = .nx (ST sc xs (up c 17 (iD (.list (wr1 Z))))) := by
  let s : SD := ST sc xs c
  have n7 : fName 7 s = .ok (.imm (.tuple Z)) s := nm rfl h7
  have l2 : (Z.take 1).length ≤ 100 := by rw [List.length_take]; omega
  have a1 : fI (fCall hList (faCons (fName 7) faNil)) s = .ok (.imm (.list Z)) s := fI_tmp (call_ok (s1 := s) (rs := [.imm (.tuple Z)]) (o := .lst Z) (cons_ok n7 rfl) rfl rfl)
  have a2 : fI (fSl (fName 7) (foSome (fImm (.int 1))) foNone) s = .ok (.imm (.tuple (Z.drop 1))) s := fI_imm (slTup_drop n7 hz1)
  have a3 : fI (f2 hAdd (fName 7) (fSl (fName 7) foNone (foSome (fImm (.int 1))))) s = .ok (.imm (.tuple (Z ++ Z.take 1))) s := fI_imm (addTup_ok (s1 := s) n7 (slTup_take n7) (mx_of (by omega)))
  have a5 := wrE (sc := sc) (xs := xs) h7 hz1 hz2 (d := .tuple [.int 0, .int 1]) (e := fTup (faCons (fImm (.int 0)) (faCons (fImm (.int 1)) faNil))) rfl
  have a6 := wrE (sc := sc) (xs := xs) h7 hz1 hz2 (d := .tuple [.int 1, .bool true]) (e := fTup (faCons (fImm (.int 1)) (faCons (fImm (.bool true)) faNil))) rfl
  have a7 := wrE (sc := sc) (xs := xs) h7 hz1 hz2 (d := .tuple [.int 1]) (e := fTup (faCons (fImm (.int 1)) faNil)) rfl
  refine setI_any (x := c 17) (s1 := s) (d := .list (wr1 Z)) (fI_tmp (lst_ok (rs := [.imm (.list Z), .imm (.tuple (Z.drop 1)), .imm (.tuple (Z ++ Z.take 1)), .imm .none, .imm (.tuple ([.tuple [.int 0, .int 1]] ++ Z.drop 1)), .imm (.tuple ([.tuple [.int 1, .bool true]] ++ Z.drop 1)), .imm (.tuple ([.tuple [.int 1]] ++ Z.drop 1)), .imm (.int 0)]) (ds := wr1 Z) (cons_ok a1 (cons_ok a2 (cons_ok a3 (cons_ok (s1 := s) rfl (cons_ok a5 (cons_ok a6 (cons_ok a7 (cons_ok (s1 := s) rfl rfl)))))))) rfl (mx_of (by show 8 ≤ 1000; decide)))) rfl hc rfl
include h7 hz1 hz2 in
theorem t20_ok (h17 : c 17 = iD (.list (wr1 Z))) : t20 (ST sc xs c) = .nx (ST sc xs (up c 17 (iD (.list (wr1 Z ++ wr2 Z))))) := by
  let s : SD := ST sc xs c
  have a1 := wrE (sc := sc) (xs := xs) h7 hz1 hz2 (d := .tuple [.int 1000000001, .int 1]) (e := fTup (faCons (fI (f2 hAdd (f2 hPow (fImm (.int 10)) (fImm (.int 9))) (fImm (.int 1)))) (faCons (fImm (.int 1)) faNil))) rfl
  have a2 := wrE (sc := sc) (xs := xs) h7 hz1 hz2 (d := .list [.int 1, .int 1]) (e := fI (fLst (faCons (fImm (.int 1)) (faCons (fImm (.int 1)) faNil)))) rfl
  have a3 := wrE (sc := sc) (xs := xs) h7 hz1 hz2 (d := .none) (e := fImm .none) rfl
  refine setI_any (x := c 17) (s1 := s) (d := .list (wr1 Z ++ wr2 Z)) (fI_tmp (f2_ok (s1 := s) (r1 := .imm (.list (wr1 Z))) (r2 := .tmp (wr2 Z)) (o := .lst (wr1 Z ++ wr2 Z)) (nm rfl h17) (lst_ok (rs := [.imm (.tuple ([.tuple [.int 1000000001, .int 1]] ++ Z.drop 1)), .imm (.tuple ([.list [.int 1, .int 1]] ++ Z.drop 1)), .imm (.tuple ([.none] ++ Z.drop 1))]) (ds := wr2 Z) (cons_ok a1 (cons_ok a2 (cons_ok a3 rfl))) rfl (mx_of (by show 3 ≤ 1000; decide))) rfl rfl (add_list (mx_of (by show 8 + 3 ≤ 1000; decide))))) rfl (by rw [h17]; exact isIm_imm _) rfl
end
theorem wr_all {t : T} {n : Nat} {Z : List D} (ht : TOk t n) (hZ : Z.length = n) : ∀ x ∈ wr1 Z ++ wr2 Z, F__law_refusal [.imm (encT t), .imm x] = .ret (.imm (.str "sizes")) [.imm (encT t), .imm x] := by
  have n1 := ht.n1
  have ld : (Z.drop 1).length + 1 = n := by rw [List.length_drop]; omega
  intro x hx
  simp only [wr1, wr2, List.cons_append, List.nil_append, List.mem_cons, List.not_mem_nil, or_false] at hx
  rcases hx with rfl | rfl | rfl | rfl | rfl | rfl | rfl | rfl | rfl | rfl | rfl
  · exact refuse_of ht (notup rfl)
  · exact refuse_of ht (boxes_len (by omega))
  · exact refuse_of ht (boxes_len (by rw [List.length_append, List.length_take]; omega))
  · exact refuse_of ht (notup rfl)
  · exact refuse_of ht (boxes_bad ld bad1)
  · exact refuse_of ht (boxes_bad ld bad2)
  · exact refuse_of ht (boxes_bad ld bad3)
  · exact refuse_of ht (notup rfl)
  · exact refuse_of ht (boxes_bad ld bad4)
  · exact refuse_of ht (boxes_bad ld bad5)
  · exact refuse_of ht (boxes_bad ld bad6)
theorem ne_sizes : hNe (.str "sizes") (.str "sizes") = some (.val (.bool false)) := by kernel_rfl
theorem ne_tree : hNe (.str "tree") (.str "tree") = some (.val (.bool false)) := by kernel_rfl
theorem t21_ok {sc : D} {xs : List D} {c : Nat → Option DV} {t : T} {n : Nat} {Z : List D} (hx : Hand xs) (ht : TOk t n) (hZ : Z.length = n) (h12 : c 12 = iD (encT t)) (h17 : c 17 = iD (.list (wr1 Z ++ wr2 Z))) : ∃ xs', Hand xs' ∧ t21 (ST sc xs c) = .nx (ST sc xs' c) := by
  obtain ⟨i, x, xs1, hi, hx1, q1⟩ := some3 (sc := sc) (c := c) (e := fName 17) hx (ds := wr1 Z ++ wr2 Z) (by show 1 ≤ 8 + 3; decide) (by show 8 + 3 ≤ 1000000; decide) (nm rfl h17)
  have r1 := wr_all ht hZ x (List.mem_of_getElem? hi)
  obtain ⟨j, y, xs2, hj, hx2, q2⟩ := some3 (sc := sc) (c := c) (e := fI (fLst (faCons (fImm .none) (faCons (fImm (.int 1)) (faCons (fTup faNil) (faCons (fTup (faCons (fImm (.str "up")) (faCons (fImm (.int 0)) (faCons (fImm (.int 0)) faNil)))) faNil)))))) hx1 (ds := [.none, .int 1, .tuple [], .tuple [.str "up", .int 0, .int 0]]) (by decide) (by decide) rfl
  have r2 : F__law_refusal [.imm y, .imm .none] = .ret (.imm (.str "tree")) [.imm y, .imm .none] := by
    match j, hj with
    | 0, hj => cases hj; exact rf1
    | 1, hj => cases hj; exact rf2
    | 2, hj => cases hj; exact rf3
    | 3, hj => cases hj; exact rf4
    | j + 4, hj => cases hj
  refine ⟨xs2, hx2, ?_⟩
  have u1 : fTr (f2 hNe (fCallF F__law_refusal (faCons (fName 12) (faCons (fI (fCallF F__law_some (faCons (fName 3) (faCons (fName 17) faNil)))) faNil))) (fImm (.str "sizes"))) (ST sc xs c) = .ok false (ST sc xs1 c) := tr_ok (f2_val (s1 := ST sc xs1 c) (s2 := ST sc xs1 c) (r1 := .imm (.str "sizes")) (r2 := .imm (.str "sizes")) (callF_imm (s1 := ST sc xs1 c) (rs := [.imm (encT t), .imm x]) (cons_ok (nm (s := ST sc xs c) rfl h12) (cons_ok (fI_imm q1) rfl)) rfl rfl r1) rfl rfl rfl ne_sizes) rfl
  have u2 : fTr (f2 hNe (fCallF F__law_refusal (faCons (fI (fCallF F__law_some (faCons (fName 3) (faCons (fI (fLst (faCons (fImm .none) (faCons (fImm (.int 1)) (faCons (fTup faNil) (faCons (fTup (faCons (fImm (.str "up")) (faCons (fImm (.int 0)) (faCons (fImm (.int 0)) faNil)))) faNil)))))) faNil)))) (faCons (fImm .none) faNil))) (fImm (.str "tree"))) (ST sc xs1 c) = .ok false (ST sc xs2 c) := tr_ok (f2_val (s1 := ST sc xs2 c) (s2 := ST sc xs2 c) (r1 := .imm (.str "tree")) (r2 := .imm (.str "tree")) (callF_imm (s1 := ST sc xs2 c) (rs := [.imm y, .imm .none]) (cons_ok (fI_imm q2) (cons_ok (s1 := ST sc xs2 c) rfl rfl)) rfl rfl r2) rfl rfl rfl ne_tree) rfl
  exact ifS_f ((or_f u1).trans u2) rfl
end DLP
end

set_option Elab.async false
set_option linter.all false
set_option pp.maxSteps 300
set_option maxRecDepth 100000
set_option maxHeartbeats 4000000
noncomputable section
namespace DLP
open PySem PySem.Spec PyProof.Rows DL
/-! ### a turn, and the law -/
def turnB : FS := fSeq t1 (fSeq t2 (fSeq t3 (fSeq t4 (fSeq t5 (fSeq t6 (fSeq t7 (fSeq t8 (fSeq t9 (fSeq t10 (fSeq t11 (fSeq t12 (fSeq t13 (fSeq t14 (fSeq t15 (fFrz 14 (fSeq t16 (fSeq t17 (fSeq t18 (fSeq t19 (fSeq t20 t21))))))))))))))))))))
theorem up_up {c : Nat → Option DV} {i : Nat} {v w : Option DV} : up (up c i v) i w = up c i w := by
  funext j
  unfold up
  split <;> rfl
theorem turn_ok {sc : D} {xs : List D} {c : Nat → Option DV} (hx : Hand xs) (hc : Ims c) : ∃ xs' c', turnB (ST sc xs c) = .nx (ST sc xs' c') ∧ Hand xs' ∧ Ims c' := by
  obtain ⟨n, x1, n1, n7, hx1, q1⟩ := t1_ok (sc := sc) hx hc
  have hc1 : Ims (up c 10 (iD (.int (n : Nat)))) := ims_up hc _ _
  obtain ⟨t, M, x2, ht, hM, hx2, q2⟩ := t2_ok (sc := sc) hx1 hc1 (n := n) rfl n1 n7
  have hc2 : Ims (up (up (up c 10 (iD (.int (n : Nat)))) 12 (iD (encT t))) 9 (iD (.int M))) := ims_up (ims_up hc1 _ _) _ _
  obtain ⟨L, x3, hL, hb, hx3, q3⟩ := t3_ok (sc := sc) hx2 hc2 (n := n) (M := M) rfl rfl n7 hM
  generalize e3 : up (up (up (up c 10 (iD (.int (n : Nat)))) 12 (iD (encT t))) 9 (iD (.int M))) 7 (iD (szD L)) = c3 at q3
  have hc3 : Ims c3 := by rw [← e3]; exact ims_up hc2 _ _
  have k10 : c3 10 = iD (.int n) := by rw [← e3]; rfl
  have k12 : c3 12 = iD (encT t) := by rw [← e3]; rfl
  have k7 : c3 7 = iD (szD L) := by rw [← e3]; rfl
  let sz : Nat → Bx := fun r => (L[r]?).getD (1, 1)
  have hs : ∀ r < n, L[r]? = some (sz r) := fun r hr => by
    show L[r]? = some ((L[r]?).getD (1, 1))
    rw [List.getElem?_eq_getElem (by omega)]
    rfl
  obtain ⟨ks, hd, q4⟩ := t4_ok (sc := sc) (xs := x3) hc3 ht hL hs k12 k7
  have hc4 : Ims (up c3 8 (iD (.dict ks))) := ims_up hc3 _ _
  obtain ⟨S, hS, hF, q5⟩ := t5_ok (sc := sc) (xs := x3) hc4 ht hL hb hs k12 k7 (ks := ks) rfl hd
  generalize e5 : up (up (up c3 8 (iD (.dict ks))) 4 (iD (.list ((S.map Sh.bx).map bxD)))) 2 (iD (.list (S.map encS))) = c5 at q5
  have hc5 : Ims c5 := by rw [← e5]; exact ims_up (ims_up hc4 _ _) _ _
  have j10 : c5 10 = iD (.int n) := by rw [← e5]; exact k10
  have j12 : c5 12 = iD (encT t) := by rw [← e5]; exact k12
  have j7 : c5 7 = iD (szD L) := by rw [← e5]; exact k7
  have j8 : c5 8 = iD (.dict ks) := by rw [← e5]; rfl
  have j2 : c5 2 = iD (.list (S.map encS)) := by rw [← e5]; rfl
  have j4 : c5 4 = iD (.list ((S.map Sh.bx).map bxD)) := by rw [← e5]; rfl
  have q6 := t6_ok (sc := sc) (xs := x3) ht hL hs hF hS j12 j7 j2 j4
  obtain ⟨v, hv, q7⟩ := t7_ok (sc := sc) (xs := x3) hS hd j8 j2 j4 hc5
  have hc7 : Ims (up c5 1 v) := fun i => by
    unfold up
    split
    · exact hv
    · exact hc5 i
  obtain ⟨O, x8, hO, hOl, hx8, q8⟩ := t8_ok (sc := sc) hx3 hc7 n7 hS hd (ks := ks) j8 j4
  generalize e8' : up (up c5 1 v) 5 (iD (.list (O.map encS))) = c8 at q8
  have hc8 : Ims c8 := by rw [← e8']; exact ims_up hc7 _ _
  have i10 : c8 10 = iD (.int n) := by rw [← e8']; exact j10
  have i12 : c8 12 = iD (encT t) := by rw [← e8']; exact j12
  have i7 : c8 7 = iD (szD L) := by rw [← e8']; exact j7
  have i8 : c8 8 = iD (.dict ks) := by rw [← e8']; exact j8
  have i5 : c8 5 = iD (.list (O.map encS)) := by rw [← e8']; rfl
  have lO : O.length = S.length := own_len hO.bx
  have l128 : S.length ≤ 128 := hS.len
  have lpos : 1 ≤ S.length := by
    obtain ⟨q, hq, _⟩ := hS.fr.dom _ ⟨fun _ => false, rfl⟩
    have := List.length_pos_of_mem hq
    rwa [List.length_map] at this
  have q9 := t9_ok (sc := sc) (xs := x8) ht hL hs hF hO i12 i7 i5
  obtain ⟨k, x10, hk, hx10, q10⟩ := t10_ok (sc := sc) (O := O) i5 hx8 hc8 (by omega) (by omega)
  have hc10 : Ims (up c8 1 (iD (.int k))) := ims_up hc8 _ _
  have q11 := t11_ok (sc := sc) (xs := x10) (c := up c8 1 (iD (.int k))) (O := O) i5 hc10 hk rfl
  generalize e11 : up (up (up (up c8 1 (iD (.int k))) 13 (iD (.int O[k].w))) 11 (iD (.int O[k].h))) 16 (iD (lotD O[k].l)) = c11 at q11
  have hc11 : Ims c11 := by rw [← e11]; exact ims_up (ims_up (ims_up hc10 _ _) _ _) _ _
  have h10 : c11 10 = iD (.int n) := by rw [← e11]; exact i10
  have h12 : c11 12 = iD (encT t) := by rw [← e11]; exact i12
  have h7 : c11 7 = iD (szD L) := by rw [← e11]; exact i7
  have h8 : c11 8 = iD (.dict ks) := by rw [← e11]; exact i8
  have h5 : c11 5 = iD (.list (O.map encS)) := by rw [← e11]; exact i5
  have h1 : c11 1 = iD (.int k) := by rw [← e11]; rfl
  have h13 : c11 13 = iD (.int O[k].w) := by rw [← e11]; rfl
  have h11 : c11 11 = iD (.int O[k].h) := by rw [← e11]; rfl
  have h16 : c11 16 = iD (lotD O[k].l) := by rw [← e11]; rfl
  have lOD : (O.map encS).length ≤ 200 := by rw [List.length_map]; omega
  have ll : O[k].l.length ≤ 100 := by
    have := asc_len (hO.lot _ (List.getElem_mem hk))
    omega
  have q12 := t12_ok (sc := sc) (xs := x10) h5 h1 h13 h11 h16 lOD (hc11 14)
  have q13 := t13_ok (sc := sc) (xs := x10) (c := up c11 14 (some (.own (bads1 (O.map encS) k O[k].w O[k].h O[k].l)))) h5 h1 h13 h11 h16 lOD rfl (by show 7 ≤ 100; decide)
  rw [up_up] at q13
  have q14 := t14_ok (sc := sc) (xs := x10) (n := n) (c := up c11 14 (some (.own (bads1 (O.map encS) k O[k].w O[k].h O[k].l ++ bads2 (O.map encS) k O[k].w O[k].h O[k].l)))) h5 h1 h13 h11 h16 h10 lOD ll rfl (by show 9 ≤ 100; decide)
  rw [up_up] at q14
  obtain ⟨zs, q15, hzs⟩ := t15_ok (sc := sc) (xs := x10) (c := up c11 14 (some (.own (bads1 (O.map encS) k O[k].w O[k].h O[k].l ++ bads2 (O.map encS) k O[k].w O[k].h O[k].l ++ bads3 (O.map encS) k n O[k].w O[k].h O[k].l)))) (OD := O.map encS) h5 rfl (by show 11 ≤ 100; decide)
  rw [up_up] at q15
  have hp : ∀ x ∈ S, 1 ≤ x.w ∧ 1 ≤ x.h := fun x hx => by
    have := box_pos (n := n) (sz := sz) (fun r hr => hb _ (List.mem_of_getElem? (hs r hr))) (fun r => decide (r ∈ x.l)) t (fun r hr => by rw [ht.rm] at hr; exact List.mem_range.mp hr)
    rw [hS.bx x hx] at this
    exact this
  have hbad := bads_all ht hL hs hF hS hO hp hk zs hzs
  have zl : 1 ≤ zs.length ∧ zs.length ≤ 1000 := by
    rcases hzs with rfl | ⟨_, rfl⟩
    · exact ⟨by show 1 ≤ 11; decide, by show 11 ≤ 1000; decide⟩
    · exact ⟨by show 1 ≤ 12; decide, by show 12 ≤ 1000; decide⟩
  have qf : frz 14 (ST sc x10 (up c11 14 (some (.own zs)))) = ST sc x10 (up c11 14 (iD (.list zs))) := by
    rw [frz_ST (zs := zs) rfl, up_up]
  obtain ⟨x16, hx16, q16⟩ := t16_ok (sc := sc) (c := up c11 14 (iD (.list zs))) h12 h7 hx10 rfl zl.1 zl.2 hbad
  have hc16 : Ims (up c11 14 (iD (.list zs))) := ims_up hc11 _ _
  obtain ⟨l, x17, hl, hx17, q17⟩ := t17_ok (sc := sc) (c := up c11 14 (iD (.list zs))) ht hd h8 hx16 hc16
  have hc17 : Ims (up (up c11 14 (iD (.list zs))) 18 (iD (lotD l))) := ims_up hc16 _ _
  have q18 := t18_ok (sc := sc) (xs := x17) (c := up (up c11 14 (iD (.list zs))) 18 (iD (lotD l))) ht hL hs hF hO hOl hd hk h12 h7 h8 h5 h1 hl rfl h13 h11 (by omega)
  have lZ : (L.map bxD).length = n := by rw [List.length_map, hL]
  have q19 := t19_ok (sc := sc) (xs := x17) (c := up (up c11 14 (iD (.list zs))) 18 (iD (lotD l))) (Z := L.map bxD) h7 (by omega) (by omega) (hc17 17)
  have hc19 := ims_up hc17 17 (.list (wr1 (L.map bxD)))
  have q20 := t20_ok (sc := sc) (xs := x17) (c := up (up (up c11 14 (iD (.list zs))) 18 (iD (lotD l))) 17 (iD (.list (wr1 (L.map bxD))))) (Z := L.map bxD) h7 (by omega) (by omega) rfl
  have hc20 := ims_up hc19 17 (.list (wr1 (L.map bxD) ++ wr2 (L.map bxD)))
  obtain ⟨x21, hx21, q21⟩ := t21_ok (sc := sc) (c := up (up (up (up c11 14 (iD (.list zs))) 18 (iD (lotD l))) 17 (iD (.list (wr1 (L.map bxD))))) 17 (iD (.list (wr1 (L.map bxD) ++ wr2 (L.map bxD))))) hx17 ht lZ h12 rfl
  refine ⟨x21, _, ?_, hx21, hc20⟩
  refine seq_nx q1 (seq_nx q2 (seq_nx q3 (seq_nx q4 (seq_nx q5 (seq_nx q6 (seq_nx q7 (seq_nx q8 (seq_nx q9 (seq_nx q10 (seq_nx q11 (seq_nx q12 (seq_nx q13 (seq_nx q14 (seq_nx q15 ?_))))))))))))))
  unfold fFrz
  rw [qf]
  exact seq_nx q16 (seq_nx q17 (seq_nx q18 (seq_nx q19 (seq_nx q20 q21))))
theorem law_true (ns : List Int) : ∃ as', F_law [.imm (.list (ns.map .int))] = .ret (.imm (.bool true)) as' := by
  obtain ⟨xs, hx, hF⟩ := hand_ok ns
  let sc : D := .list (ns.map .int)
  obtain ⟨s', q, xs', c', rfl, _, _⟩ := for_all (gg := gOne 19) (body := turnB) natD (fun s => ∃ xs c, s = ST sc xs c ∧ Hand xs ∧ Ims c) (List.range' 0 5) (ST sc xs fun _ => none) ⟨xs, _, rfl, hx, fun _ => .inl rfl⟩ (fun r hr s hI => by
    obtain ⟨xs, c, rfl, hx, hc⟩ := hI
    obtain ⟨xs', c', q, hx', hc'⟩ := turn_ok (sc := sc) (c := up c 19 (iD (natD r))) hx (ims_up hc _ _)
    refine ⟨ST sc xs (up c 19 (iD (natD r))), _, ?_, q, _, _, rfl, hx', hc'⟩
    show setD (ST sc xs c) 19 (.imm (natD r)) = _
    rw [setD_of (x := c 19) rfl (hc 19)]
    rfl)
  refine ⟨_, mkF_imm rfl (s := ST sc xs' c') ?_ rfl⟩
  refine seq_nx (s1 := ST sc xs fun _ => none) (setO_nx (callF_tmp (rs := [.imm sc]) rfl rfl rfl hF) rfl) ?_
  refine seq_nx (for_is (s1 := ST sc xs fun _ => none) (ds := (List.range' 0 5).map natD) rfl q) rfl
end DLP
end

set_option Elab.async false
set_option linter.all false
set_option maxRecDepth 100000
set_option maxHeartbeats 8000000
noncomputable section
namespace DLP
open PySem PySem.Spec PyProof.Rows L2 DL
theorem all_mk {P : Program} {w : World} {K : PySem.W.Frag} {h : Heap} {mg : Str → Option Value} {fa : Addr} (X : K.In h) (Gm : h.Ns mainGlobals mg) (hfa : mg "law" = some (.ref fa))
    {f6 f9 f10 f13 f14 f15 f16 f17 f18 f19 f20 f22 f23 f24 f25 f26 f27 f29 f28 f30 f31 f32 f33 f34 : Addr}
    {od6 an6 od9 an9 od10 an10 od13 an13 od14 an14 od15 an15 od16 an16 od17 an17 od18 an18 od19 an19 od20 an20 od22 an22 od23 an23 od24 an24 od25 an25 od26 an26 od27 an27 od29 an29 od28 an28 od30 an30 od31 an31 od32 an32 od33 an33 od34 an34 : Option Addr}
    {sl6 sl9 sl10 sl13 sl14 sl15 sl16 sl17 sl18 sl19 sl20 sl22 sl23 sl24 sl25 sl26 sl27 sl29 sl28 sl30 sl31 sl32 sl33 sl34 : Array (Option Value)}
    {oc6 kV6 dc6 pm6 cd6 ct6 oc9 kV9 dc9 pm9 cd9 ct9 oc10 kV10 dc10 pm10 cd10 ct10 oc13 kV13 dc13 pm13 cd13 ct13 oc14 kV14 dc14 pm14 cd14 ct14 oc15 kV15 dc15 pm15 cd15 ct15 oc16 kV16 dc16 pm16 cd16 ct16 oc17 kV17 dc17 pm17 cd17 ct17 oc18 kV18 dc18 pm18 cd18 ct18 oc19 kV19 dc19 pm19 cd19 ct19 oc20 kV20 dc20 pm20 cd20 ct20 oc22 kV22 dc22 pm22 cd22 ct22 oc23 kV23 dc23 pm23 cd23 ct23 oc24 kV24 dc24 pm24 cd24 ct24 oc25 kV25 dc25 pm25 cd25 ct25 oc26 kV26 dc26 pm26 cd26 ct26 oc27 kV27 dc27 pm27 cd27 ct27 oc29 kV29 dc29 pm29 cd29 ct29 oc28 kV28 dc28 pm28 cd28 ct28 oc30 kV30 dc30 pm30 cd30 ct30 oc31 kV31 dc31 pm31 cd31 ct31 oc32 kV32 dc32 pm32 cd32 ct32 oc33 kV33 dc33 pm33 cd33 ct33 oc34 kV34 dc34 pm34 cd34 ct34 : Value}
    {t5 : Tok}
    {t7 : Addr} {ot7 : Option Addr} {n7 : Nat} {st7 : Array (Option Value)} {u7_0 u7_1 : Tok}
    {t12 : Tok}
    {C1 : Addr}
    {C2 : Addr}
    {C3 : Addr}
    (a6 : PySem.W.nsIn K mainGlobals "is_integer" = some (some (.ref f6)))
    (l6 : K.lookup f6 = some ⟨oc6, od6, .func (PySem.W.fnOf "is_integer" "is_integer" (defArgs (topS 6)) (defBody (topS 6)) (defScope (topS 6)) .none kV6 dc6 pm6 an6 cd6 ct6), sl6⟩)
    (c6 : PySem.W.codeIn K cd6 "is_integer" = true)
    (k6 : PySem.W.keepIn K (.ref f6) = true)
    (a9 : PySem.W.nsIn K mainGlobals "rooms_in" = some (some (.ref f9)))
    (l9 : K.lookup f9 = some ⟨oc9, od9, .func (PySem.W.fnOf "rooms_in" "rooms_in" (defArgs (topS 9)) (defBody (topS 9)) (defScope (topS 9)) .none kV9 dc9 pm9 an9 cd9 ct9), sl9⟩)
    (c9 : PySem.W.codeIn K cd9 "rooms_in" = true)
    (k9 : PySem.W.keepIn K (.ref f9) = true)
    (a10 : PySem.W.nsIn K mainGlobals "is_tree" = some (some (.ref f10)))
    (l10 : K.lookup f10 = some ⟨oc10, od10, .func (PySem.W.fnOf "is_tree" "is_tree" (defArgs (topS 10)) (defBody (topS 10)) (defScope (topS 10)) .none kV10 dc10 pm10 an10 cd10 ct10), sl10⟩)
    (c10 : PySem.W.codeIn K cd10 "is_tree" = true)
    (k10 : PySem.W.keepIn K (.ref f10) = true)
    (a13 : PySem.W.nsIn K mainGlobals "are_boxes" = some (some (.ref f13)))
    (l13 : K.lookup f13 = some ⟨oc13, od13, .func (PySem.W.fnOf "are_boxes" "are_boxes" (defArgs (topS 13)) (defBody (topS 13)) (defScope (topS 13)) .none kV13 dc13 pm13 an13 cd13 ct13), sl13⟩)
    (c13 : PySem.W.codeIn K cd13 "are_boxes" = true)
    (k13 : PySem.W.keepIn K (.ref f13) = true)
    (a14 : PySem.W.nsIn K mainGlobals "fewest" = some (some (.ref f14)))
    (l14 : K.lookup f14 = some ⟨oc14, od14, .func (PySem.W.fnOf "fewest" "fewest" (defArgs (topS 14)) (defBody (topS 14)) (defScope (topS 14)) .none kV14 dc14 pm14 an14 cd14 ct14), sl14⟩)
    (c14 : PySem.W.codeIn K cd14 "fewest" = true)
    (k14 : PySem.W.keepIn K (.ref f14) = true)
    (a15 : PySem.W.nsIn K mainGlobals "put_together" = some (some (.ref f15)))
    (l15 : K.lookup f15 = some ⟨oc15, od15, .func (PySem.W.fnOf "put_together" "put_together" (defArgs (topS 15)) (defBody (topS 15)) (defScope (topS 15)) .none kV15 dc15 pm15 an15 cd15 ct15), sl15⟩)
    (c15 : PySem.W.codeIn K cd15 "put_together" = true)
    (k15 : PySem.W.keepIn K (.ref f15) = true)
    (a16 : PySem.W.nsIn K mainGlobals "shapes_of" = some (some (.ref f16)))
    (l16 : K.lookup f16 = some ⟨oc16, od16, .func (PySem.W.fnOf "shapes_of" "shapes_of" (defArgs (topS 16)) (defBody (topS 16)) (defScope (topS 16)) .none kV16 dc16 pm16 an16 cd16 ct16), sl16⟩)
    (c16 : PySem.W.codeIn K cd16 "shapes_of" = true)
    (k16 : PySem.W.keepIn K (.ref f16) = true)
    (a17 : PySem.W.nsIn K mainGlobals "shapes" = some (some (.ref f17)))
    (l17 : K.lookup f17 = some ⟨oc17, od17, .func (PySem.W.fnOf "shapes" "shapes" (defArgs (topS 17)) (defBody (topS 17)) (defScope (topS 17)) .none kV17 dc17 pm17 an17 cd17 ct17), sl17⟩)
    (c17 : PySem.W.codeIn K cd17 "shapes" = true)
    (k17 : PySem.W.keepIn K (.ref f17) = true)
    (a18 : PySem.W.nsIn K mainGlobals "shape_with" = some (some (.ref f18)))
    (l18 : K.lookup f18 = some ⟨oc18, od18, .func (PySem.W.fnOf "shape_with" "shape_with" (defArgs (topS 18)) (defBody (topS 18)) (defScope (topS 18)) .none kV18 dc18 pm18 an18 cd18 ct18), sl18⟩)
    (c18 : PySem.W.codeIn K cd18 "shape_with" = true)
    (k18 : PySem.W.keepIn K (.ref f18) = true)
    (a19 : PySem.W.nsIn K mainGlobals "is_rooms_lot" = some (some (.ref f19)))
    (l19 : K.lookup f19 = some ⟨oc19, od19, .func (PySem.W.fnOf "is_rooms_lot" "is_rooms_lot" (defArgs (topS 19)) (defBody (topS 19)) (defScope (topS 19)) .none kV19 dc19 pm19 an19 cd19 ct19), sl19⟩)
    (c19 : PySem.W.codeIn K cd19 "is_rooms_lot" = true)
    (k19 : PySem.W.keepIn K (.ref f19) = true)
    (a20 : PySem.W.nsIn K mainGlobals "are_shapes" = some (some (.ref f20)))
    (l20 : K.lookup f20 = some ⟨oc20, od20, .func (PySem.W.fnOf "are_shapes" "are_shapes" (defArgs (topS 20)) (defBody (topS 20)) (defScope (topS 20)) .none kV20 dc20 pm20 an20 cd20 ct20), sl20⟩)
    (c20 : PySem.W.codeIn K cd20 "are_shapes" = true)
    (k20 : PySem.W.keepIn K (.ref f20) = true)
    (a22 : PySem.W.nsIn K mainGlobals "_law_hand" = some (some (.ref f22)))
    (l22 : K.lookup f22 = some ⟨oc22, od22, .func (PySem.W.fnOf "_law_hand" "_law_hand" (defArgs (topS 22)) (defBody (topS 22)) (defScope (topS 22)) .none kV22 dc22 pm22 an22 cd22 ct22), sl22⟩)
    (c22 : PySem.W.codeIn K cd22 "_law_hand" = true)
    (k22 : PySem.W.keepIn K (.ref f22) = true)
    (a23 : PySem.W.nsIn K mainGlobals "_law_draw" = some (some (.ref f23)))
    (l23 : K.lookup f23 = some ⟨oc23, od23, .func (PySem.W.fnOf "_law_draw" "_law_draw" (defArgs (topS 23)) (defBody (topS 23)) (defScope (topS 23)) .none kV23 dc23 pm23 an23 cd23 ct23), sl23⟩)
    (c23 : PySem.W.codeIn K cd23 "_law_draw" = true)
    (k23 : PySem.W.keepIn K (.ref f23) = true)
    (a24 : PySem.W.nsIn K mainGlobals "_law_big" = some (some (.ref f24)))
    (l24 : K.lookup f24 = some ⟨oc24, od24, .func (PySem.W.fnOf "_law_big" "_law_big" (defArgs (topS 24)) (defBody (topS 24)) (defScope (topS 24)) .none kV24 dc24 pm24 an24 cd24 ct24), sl24⟩)
    (c24 : PySem.W.codeIn K cd24 "_law_big" = true)
    (k24 : PySem.W.keepIn K (.ref f24) = true)
    (a25 : PySem.W.nsIn K mainGlobals "_law_some" = some (some (.ref f25)))
    (l25 : K.lookup f25 = some ⟨oc25, od25, .func (PySem.W.fnOf "_law_some" "_law_some" (defArgs (topS 25)) (defBody (topS 25)) (defScope (topS 25)) .none kV25 dc25 pm25 an25 cd25 ct25), sl25⟩)
    (c25 : PySem.W.codeIn K cd25 "_law_some" = true)
    (k25 : PySem.W.keepIn K (.ref f25) = true)
    (a26 : PySem.W.nsIn K mainGlobals "_law_kept" = some (some (.ref f26)))
    (l26 : K.lookup f26 = some ⟨oc26, od26, .func (PySem.W.fnOf "_law_kept" "_law_kept" (defArgs (topS 26)) (defBody (topS 26)) (defScope (topS 26)) .none kV26 dc26 pm26 an26 cd26 ct26), sl26⟩)
    (c26 : PySem.W.codeIn K cd26 "_law_kept" = true)
    (k26 : PySem.W.keepIn K (.ref f26) = true)
    (a27 : PySem.W.nsIn K mainGlobals "_law_whole" = some (some (.ref f27)))
    (l27 : K.lookup f27 = some ⟨oc27, od27, .func (PySem.W.fnOf "_law_whole" "_law_whole" (defArgs (topS 27)) (defBody (topS 27)) (defScope (topS 27)) .none kV27 dc27 pm27 an27 cd27 ct27), sl27⟩)
    (c27 : PySem.W.codeIn K cd27 "_law_whole" = true)
    (k27 : PySem.W.keepIn K (.ref f27) = true)
    (a29 : PySem.W.nsIn K mainGlobals "_law_rightened" = some (some (.ref f29)))
    (l29 : K.lookup f29 = some ⟨oc29, od29, .func (PySem.W.fnOf "_law_rightened" "_law_rightened" (defArgs (topS 29)) (defBody (topS 29)) (defScope (topS 29)) .none kV29 dc29 pm29 an29 cd29 ct29), sl29⟩)
    (c29 : PySem.W.codeIn K cd29 "_law_rightened" = true)
    (k29 : PySem.W.keepIn K (.ref f29) = true)
    (a28 : PySem.W.nsIn K mainGlobals "_law_draw_tree" = some (some (.ref f28)))
    (l28 : K.lookup f28 = some ⟨oc28, od28, .func (PySem.W.fnOf "_law_draw_tree" "_law_draw_tree" (defArgs (topS 28)) (defBody (topS 28)) (defScope (topS 28)) .none kV28 dc28 pm28 an28 cd28 ct28), sl28⟩)
    (c28 : PySem.W.codeIn K cd28 "_law_draw_tree" = true)
    (k28 : PySem.W.keepIn K (.ref f28) = true)
    (a30 : PySem.W.nsIn K mainGlobals "_law_box" = some (some (.ref f30)))
    (l30 : K.lookup f30 = some ⟨oc30, od30, .func (PySem.W.fnOf "_law_box" "_law_box" (defArgs (topS 30)) (defBody (topS 30)) (defScope (topS 30)) .none kV30 dc30 pm30 an30 cd30 ct30), sl30⟩)
    (c30 : PySem.W.codeIn K cd30 "_law_box" = true)
    (k30 : PySem.W.keepIn K (.ref f30) = true)
    (a31 : PySem.W.nsIn K mainGlobals "_law_all_boxes" = some (some (.ref f31)))
    (l31 : K.lookup f31 = some ⟨oc31, od31, .func (PySem.W.fnOf "_law_all_boxes" "_law_all_boxes" (defArgs (topS 31)) (defBody (topS 31)) (defScope (topS 31)) .none kV31 dc31 pm31 an31 cd31 ct31), sl31⟩)
    (c31 : PySem.W.codeIn K cd31 "_law_all_boxes" = true)
    (k31 : PySem.W.keepIn K (.ref f31) = true)
    (a32 : PySem.W.nsIn K mainGlobals "_law_least" = some (some (.ref f32)))
    (l32 : K.lookup f32 = some ⟨oc32, od32, .func (PySem.W.fnOf "_law_least" "_law_least" (defArgs (topS 32)) (defBody (topS 32)) (defScope (topS 32)) .none kV32 dc32 pm32 an32 cd32 ct32), sl32⟩)
    (c32 : PySem.W.codeIn K cd32 "_law_least" = true)
    (k32 : PySem.W.keepIn K (.ref f32) = true)
    (a33 : PySem.W.nsIn K mainGlobals "_law_refusal" = some (some (.ref f33)))
    (l33 : K.lookup f33 = some ⟨oc33, od33, .func (PySem.W.fnOf "_law_refusal" "_law_refusal" (defArgs (topS 33)) (defBody (topS 33)) (defScope (topS 33)) .none kV33 dc33 pm33 an33 cd33 ct33), sl33⟩)
    (c33 : PySem.W.codeIn K cd33 "_law_refusal" = true)
    (k33 : PySem.W.keepIn K (.ref f33) = true)
    (a34 : PySem.W.nsIn K mainGlobals "law" = some (some (.ref f34)))
    (l34 : K.lookup f34 = some ⟨oc34, od34, .func (PySem.W.fnOf "law" "law" (defArgs (topS 34)) (defBody (topS 34)) (defScope (topS 34)) .none kV34 dc34 pm34 an34 cd34 ct34), sl34⟩)
    (c34 : PySem.W.codeIn K cd34 "law" = true)
    (k34 : PySem.W.keepIn K (.ref f34) = true)
    (a5 : PySem.W.nsIn K mainGlobals "MOST_ROOMS" = some (some (.int 24 t5)))
    (a7 : PySem.W.nsIn K mainGlobals "KINDS" = some (some (.ref t7)))
    (l7 : K.lookup t7 = some ⟨.type "tuple", ot7, .seq #[.str "level" u7_0, .str "up" u7_1] n7, st7⟩)
    (a12 : PySem.W.nsIn K mainGlobals "GREATEST" = some (some (.int 1000000000 t12)))
    (z_abs : PySem.W.nsIn K mainGlobals "abs" = some none)
    (z_all : PySem.W.nsIn K mainGlobals "all" = some none)
    (z_any : PySem.W.nsIn K mainGlobals "any" = some none)
    (z_bool : PySem.W.nsIn K mainGlobals "bool" = some none)
    (z_int : PySem.W.nsIn K mainGlobals "int" = some none)
    (z_isinstance : PySem.W.nsIn K mainGlobals "isinstance" = some none)
    (z_len : PySem.W.nsIn K mainGlobals "len" = some none)
    (z_list : PySem.W.nsIn K mainGlobals "list" = some none)
    (z_max : PySem.W.nsIn K mainGlobals "max" = some none)
    (z_range : PySem.W.nsIn K mainGlobals "range" = some none)
    (z_sorted : PySem.W.nsIn K mainGlobals "sorted" = some none)
    (z_str : PySem.W.nsIn K mainGlobals "str" = some none)
    (z_tuple : PySem.W.nsIn K mainGlobals "tuple" = some none)
    (z_zip : PySem.W.nsIn K mainGlobals "zip" = some none)
    (g1 : PySem.W.nsIn K mainGlobals "FloorError" = some (some (.ref C1)))
    (s1 : PySem.W.subIn K (.ref C1) (.type "BaseException") = some true)
    (t1 : PySem.W.typeIn K (.ref C1) = some (.type "type"))
    (k1 : PySem.W.keepIn K (.ref C1) = true)
    (q1 : PySem.W.excIn K C1 [.type "ValueError", .type "Exception", .type "BaseException", .type "object"] "ValueError.__new__" = true)
    (g2 : PySem.W.nsIn K mainGlobals "NoSizes" = some (some (.ref C2)))
    (s2 : PySem.W.subIn K (.ref C2) (.type "BaseException") = some true)
    (t2 : PySem.W.typeIn K (.ref C2) = some (.type "type"))
    (k2 : PySem.W.keepIn K (.ref C2) = true)
    (q2 : PySem.W.excIn K C2 [.type "ValueError", .type "Exception", .type "BaseException", .type "object"] "ValueError.__new__" = true)
    (g3 : PySem.W.nsIn K mainGlobals "NoTree" = some (some (.ref C3)))
    (s3 : PySem.W.subIn K (.ref C3) (.type "BaseException") = some true)
    (t3 : PySem.W.typeIn K (.ref C3) = some (.type "type"))
    (k3 : PySem.W.keepIn K (.ref C3) = true)
    (q3 : PySem.W.excIn K C3 [.type "ValueError", .type "Exception", .type "BaseException", .type "object"] "ValueError.__new__" = true)
    (ic1 : PySem.W.isClsIn K C1 = true)
    (e1_1 : PySem.W.subIn K (.ref C1) (.ref C1) = some true)
    (e2_1 : PySem.W.subIn K (.ref C2) (.ref C1) = some true)
    (e3_1 : PySem.W.subIn K (.ref C3) (.ref C1) = some true)
    (ic2 : PySem.W.isClsIn K C2 = true)
    (e1_2 : PySem.W.subIn K (.ref C1) (.ref C2) = some false)
    (e2_2 : PySem.W.subIn K (.ref C2) (.ref C2) = some true)
    (e3_2 : PySem.W.subIn K (.ref C3) (.ref C2) = some false)
    (ic3 : PySem.W.isClsIn K C3 = true)
    (e1_3 : PySem.W.subIn K (.ref C1) (.ref C3) = some false)
    (e2_3 : PySem.W.subIn K (.ref C2) (.ref C3) = some false)
    (e3_3 : PySem.W.subIn K (.ref C3) (.ref C3) = some true) :
    ∃ fd : FuncData, (∀ (s : Shared) (v : Value), BindsTo s fd ⟨[v], []⟩ [("script", v)]) ∧ ∀ base : Heap, K.In base → base.Ns mainGlobals mg → FnOk P w K mg base (L2.CX P w) 17 fa fd ["script"] (spT K) := by
  have e := hfa.symm.trans (PySem.W.mg_of X Gm a34)
  cases e
  let g : G K mg := {
    a_is_integer := f6, d_is_integer := _, F_is_integer := fun_mk (st := topS 6) l6 c6 k6, b_is_integer := (fun_mk (st := topS 6) l6 c6 k6).binds (ps := ["thing"]) (fun _ _ _ _ _ _ us hl => match us, hl with | [_], _ => rfl), g_is_integer := PySem.W.mg_of X Gm a6,
    a_rooms_in := f9, d_rooms_in := _, F_rooms_in := fun_mk (st := topS 9) l9 c9 k9, b_rooms_in := (fun_mk (st := topS 9) l9 c9 k9).binds (ps := ["thing"]) (fun _ _ _ _ _ _ us hl => match us, hl with | [_], _ => rfl), g_rooms_in := PySem.W.mg_of X Gm a9,
    a_is_tree := f10, d_is_tree := _, F_is_tree := fun_mk (st := topS 10) l10 c10 k10, b_is_tree := (fun_mk (st := topS 10) l10 c10 k10).binds (ps := ["thing"]) (fun _ _ _ _ _ _ us hl => match us, hl with | [_], _ => rfl), g_is_tree := PySem.W.mg_of X Gm a10,
    a_are_boxes := f13, d_are_boxes := _, F_are_boxes := fun_mk (st := topS 13) l13 c13 k13, b_are_boxes := (fun_mk (st := topS 13) l13 c13 k13).binds (ps := ["thing", "many"]) (fun _ _ _ _ _ _ us hl => match us, hl with | [_, _], _ => rfl), g_are_boxes := PySem.W.mg_of X Gm a13,
    a_fewest := f14, d_fewest := _, F_fewest := fun_mk (st := topS 14) l14 c14 k14, b_fewest := (fun_mk (st := topS 14) l14 c14 k14).binds (ps := ["shapes"]) (fun _ _ _ _ _ _ us hl => match us, hl with | [_], _ => rfl), g_fewest := PySem.W.mg_of X Gm a14,
    a_put_together := f15, d_put_together := _, F_put_together := fun_mk (st := topS 15) l15 c15 k15, b_put_together := (fun_mk (st := topS 15) l15 c15 k15).binds (ps := ["kind", "one", "other"]) (fun _ _ _ _ _ _ us hl => match us, hl with | [_, _, _], _ => rfl), g_put_together := PySem.W.mg_of X Gm a15,
    a_shapes_of := f16, d_shapes_of := _, F_shapes_of := fun_mk (st := topS 16) l16 c16 k16, b_shapes_of := (fun_mk (st := topS 16) l16 c16 k16).binds (ps := ["tree", "sizes"]) (fun _ _ _ _ _ _ us hl => match us, hl with | [_, _], _ => rfl), g_shapes_of := PySem.W.mg_of X Gm a16,
    a_shapes := f17, d_shapes := _, F_shapes := fun_mk (st := topS 17) l17 c17 k17, b_shapes := (fun_mk (st := topS 17) l17 c17 k17).binds (ps := ["tree", "sizes"]) (fun _ _ _ _ _ _ us hl => match us, hl with | [_, _], _ => rfl), g_shapes := PySem.W.mg_of X Gm a17,
    a_shape_with := f18, d_shape_with := _, F_shape_with := fun_mk (st := topS 18) l18 c18 k18, b_shape_with := (fun_mk (st := topS 18) l18 c18 k18).binds (ps := ["tree", "sizes", "turned"]) (fun _ _ _ _ _ _ us hl => match us, hl with | [_, _, _], _ => rfl), g_shape_with := PySem.W.mg_of X Gm a18,
    a_is_rooms_lot := f19, d_is_rooms_lot := _, F_is_rooms_lot := fun_mk (st := topS 19) l19 c19 k19, b_is_rooms_lot := (fun_mk (st := topS 19) l19 c19 k19).binds (ps := ["thing", "many"]) (fun _ _ _ _ _ _ us hl => match us, hl with | [_, _], _ => rfl), g_is_rooms_lot := PySem.W.mg_of X Gm a19,
    a_are_shapes := f20, d_are_shapes := _, F_are_shapes := fun_mk (st := topS 20) l20 c20 k20, b_are_shapes := (fun_mk (st := topS 20) l20 c20 k20).binds (ps := ["tree", "sizes", "thing"]) (fun _ _ _ _ _ _ us hl => match us, hl with | [_, _, _], _ => rfl), g_are_shapes := PySem.W.mg_of X Gm a20,
    a__law_hand := f22, d__law_hand := _, F__law_hand := fun_mk (st := topS 22) l22 c22 k22, b__law_hand := (fun_mk (st := topS 22) l22 c22 k22).binds (ps := ["script"]) (fun _ _ _ _ _ _ us hl => match us, hl with | [_], _ => rfl), g__law_hand := PySem.W.mg_of X Gm a22,
    a__law_draw := f23, d__law_draw := _, F__law_draw := fun_mk (st := topS 23) l23 c23 k23, b__law_draw := (fun_mk (st := topS 23) l23 c23 k23).binds (ps := ["hand", "many"]) (fun _ _ _ _ _ _ us hl => match us, hl with | [_, _], _ => rfl), g__law_draw := PySem.W.mg_of X Gm a23,
    a__law_big := f24, d__law_big := _, F__law_big := fun_mk (st := topS 24) l24 c24 k24, b__law_big := (fun_mk (st := topS 24) l24 c24 k24).binds (ps := ["hand", "most"]) (fun _ _ _ _ _ _ us hl => match us, hl with | [_, _], _ => rfl), g__law_big := PySem.W.mg_of X Gm a24,
    a__law_some := f25, d__law_some := _, F__law_some := fun_mk (st := topS 25) l25 c25 k25, b__law_some := (fun_mk (st := topS 25) l25 c25 k25).binds (ps := ["hand", "things"]) (fun _ _ _ _ _ _ us hl => match us, hl with | [_, _], _ => rfl), g__law_some := PySem.W.mg_of X Gm a25,
    a__law_kept := f26, d__law_kept := _, F__law_kept := fun_mk (st := topS 26) l26 c26 k26, b__law_kept := (fun_mk (st := topS 26) l26 c26 k26).binds (ps := ["told", "due"]) (fun _ _ _ _ _ _ us hl => match us, hl with | [_, _], _ => rfl), g__law_kept := PySem.W.mg_of X Gm a26,
    a__law_whole := f27, d__law_whole := _, F__law_whole := fun_mk (st := topS 27) l27 c27 k27, b__law_whole := (fun_mk (st := topS 27) l27 c27 k27).binds (ps := ["number"]) (fun _ _ _ _ _ _ us hl => match us, hl with | [_], _ => rfl), g__law_whole := PySem.W.mg_of X Gm a27,
    a__law_rightened := f29, d__law_rightened := _, F__law_rightened := fun_mk (st := topS 29) l29 c29 k29, b__law_rightened := (fun_mk (st := topS 29) l29 c29 k29).binds (ps := ["tree"]) (fun _ _ _ _ _ _ us hl => match us, hl with | [_], _ => rfl), g__law_rightened := PySem.W.mg_of X Gm a29,
    a__law_draw_tree := f28, d__law_draw_tree := _, F__law_draw_tree := fun_mk (st := topS 28) l28 c28 k28, b__law_draw_tree := (fun_mk (st := topS 28) l28 c28 k28).binds (ps := ["hand", "many"]) (fun _ _ _ _ _ _ us hl => match us, hl with | [_, _], _ => rfl), g__law_draw_tree := PySem.W.mg_of X Gm a28,
    a__law_box := f30, d__law_box := _, F__law_box := fun_mk (st := topS 30) l30 c30 k30, b__law_box := (fun_mk (st := topS 30) l30 c30 k30).binds (ps := ["tree", "sizes", "turned"]) (fun _ _ _ _ _ _ us hl => match us, hl with | [_, _, _], _ => rfl), g__law_box := PySem.W.mg_of X Gm a30,
    a__law_all_boxes := f31, d__law_all_boxes := _, F__law_all_boxes := fun_mk (st := topS 31) l31 c31 k31, b__law_all_boxes := (fun_mk (st := topS 31) l31 c31 k31).binds (ps := ["tree", "sizes"]) (fun _ _ _ _ _ _ us hl => match us, hl with | [_, _], _ => rfl), g__law_all_boxes := PySem.W.mg_of X Gm a31,
    a__law_least := f32, d__law_least := _, F__law_least := fun_mk (st := topS 32) l32 c32 k32, b__law_least := (fun_mk (st := topS 32) l32 c32 k32).binds (ps := ["boxes"]) (fun _ _ _ _ _ _ us hl => match us, hl with | [_], _ => rfl), g__law_least := PySem.W.mg_of X Gm a32,
    a__law_refusal := f33, d__law_refusal := _, F__law_refusal := fun_mk (st := topS 33) l33 c33 k33, b__law_refusal := (fun_mk (st := topS 33) l33 c33 k33).binds (ps := ["tree", "sizes"]) (fun _ _ _ _ _ _ us hl => match us, hl with | [_, _], _ => rfl), g__law_refusal := PySem.W.mg_of X Gm a33,
    a_law := fa, d_law := _, F_law := fun_mk (st := topS 34) l34 c34 k34, b_law := (fun_mk (st := topS 34) l34 c34 k34).binds (ps := ["script"]) (fun _ _ _ _ _ _ us hl => match us, hl with | [_], _ => rfl), g_law := PySem.W.mg_of X Gm a34,
    t_MOST_ROOMS := t5, c_MOST_ROOMS := PySem.W.mg_of X Gm a5,
    t_KINDS := t7, c_KINDS := PySem.W.mg_of X Gm a7, T_KINDS := top_of l7 (show 2 ≤ sizeLine by decide),
    t_GREATEST := t12, c_GREATEST := PySem.W.mg_of X Gm a12,
    z_abs := PySem.W.mg_none_of X Gm z_abs,
    z_all := PySem.W.mg_none_of X Gm z_all,
    z_any := PySem.W.mg_none_of X Gm z_any,
    z_bool := PySem.W.mg_none_of X Gm z_bool,
    z_int := PySem.W.mg_none_of X Gm z_int,
    z_isinstance := PySem.W.mg_none_of X Gm z_isinstance,
    z_len := PySem.W.mg_none_of X Gm z_len,
    z_list := PySem.W.mg_none_of X Gm z_list,
    z_max := PySem.W.mg_none_of X Gm z_max,
    z_range := PySem.W.mg_none_of X Gm z_range,
    z_sorted := PySem.W.mg_none_of X Gm z_sorted,
    z_str := PySem.W.mg_none_of X Gm z_str,
    z_tuple := PySem.W.mg_none_of X Gm z_tuple,
    z_zip := PySem.W.mg_none_of X Gm z_zip,
    a_FloorError := C1, g_FloorError := PySem.W.mg_of X Gm g1,
    q_FloorError := q1, k_FloorError := k1, s_FloorError := s1, t_FloorError := t1,
    a_NoSizes := C2, g_NoSizes := PySem.W.mg_of X Gm g2,
    q_NoSizes := q2, k_NoSizes := k2, s_NoSizes := s2, t_NoSizes := t2,
    a_NoTree := C3, g_NoTree := PySem.W.mg_of X Gm g3,
    q_NoTree := q3, k_NoTree := k3, s_NoTree := s3, t_NoTree := t3,
    e_FloorError_FloorError := exm_pair s1 ic1 t1 e1_1,
    e_NoSizes_FloorError := exm_pair s1 ic1 t1 e2_1,
    e_NoTree_FloorError := exm_pair s1 ic1 t1 e3_1,
    e_FloorError_NoSizes := exm_pair s2 ic2 t2 e1_2,
    e_NoSizes_NoSizes := exm_pair s2 ic2 t2 e2_2,
    e_NoTree_NoSizes := exm_pair s2 ic2 t2 e3_2,
    e_FloorError_NoTree := exm_pair s3 ic3 t3 e1_3,
    e_NoSizes_NoTree := exm_pair s3 ic3 t3 e2_3,
    e_NoTree_NoTree := exm_pair s3 ic3 t3 e3_3 }
  exact ⟨PySem.W.fnOf "law" "law" (defArgs (topS 34)) (defBody (topS 34)) (defScope (topS 34)) .none kV34 dc34 pm34 an34 cd34 ct34, fun s v => .of_eq rfl, fun base _ _ => FnOk.imp (ok_law (P := P) (w := w) (base := base) g) fun vs H Q E q => spT_of (fun ns hl => law_true ns) vs H Q E q⟩
end DLP
end
open PySem PySem.W PyProof.Rows
set_option maxRecDepth 100000 in
set_option maxHeartbeats 0 in
theorem PySem.Challenge.cw_whotouches_k71_whole_least_boxes_of_tree_holds : PySem.Challenge.rw_whotouches_k71_whole_least_boxes_of_tree.Holds := by
  w_on; o_law; k_head; (case hw => w_witness2)
  k_fill
  refine L2.walk_of (l := PySem.Challenge.rw_whotouches_k71_whole_least_boxes_of_tree) (n := 63) (k := 17) (x := "script") (CX := fun w => L2.CX PySem.Challenge.pw_whotouches_k71_whole_least_boxes_of_tree w) (sp := fun w => DL.spT _) rfl (by decide) rfl ⟨rfl, by decide, by decide⟩ (fun w h Y => PySem.W.kIn_of Y) ?F (fun _ _ a ns hl _ hS => ⟨a, ns, rfl, hS, hl, fun _ => rfl⟩) (fun w H s e s' h => DL.cx_no w H s e s' h)
  case F =>
    intro w mg fa h KX Gm hmg
    refine' DLP.all_mk KX Gm hmg ?a6 ?l6 ?c6 ?k6 ?a9 ?l9 ?c9 ?k9 ?a10 ?l10 ?c10 ?k10 ?a13 ?l13 ?c13 ?k13 ?a14 ?l14 ?c14 ?k14 ?a15 ?l15 ?c15 ?k15 ?a16 ?l16 ?c16 ?k16 ?a17 ?l17 ?c17 ?k17 ?a18 ?l18 ?c18 ?k18 ?a19 ?l19 ?c19 ?k19 ?a20 ?l20 ?c20 ?k20 ?a22 ?l22 ?c22 ?k22 ?a23 ?l23 ?c23 ?k23 ?a24 ?l24 ?c24 ?k24 ?a25 ?l25 ?c25 ?k25 ?a26 ?l26 ?c26 ?k26 ?a27 ?l27 ?c27 ?k27 ?a29 ?l29 ?c29 ?k29 ?a28 ?l28 ?c28 ?k28 ?a30 ?l30 ?c30 ?k30 ?a31 ?l31 ?c31 ?k31 ?a32 ?l32 ?c32 ?k32 ?a33 ?l33 ?c33 ?k33 ?a34 ?l34 ?c34 ?k34 ?a5 ?a7 ?l7 ?a12 ?z_abs ?z_all ?z_any ?z_bool ?z_int ?z_isinstance ?z_len ?z_list ?z_max ?z_range ?z_sorted ?z_str ?z_tuple ?z_zip ?g1 ?s1 ?t1 ?k1 ?q1 ?g2 ?s2 ?t2 ?k2 ?q2 ?g3 ?s3 ?t3 ?k3 ?q3 ?ic1 ?e1_1 ?e2_1 ?e3_1 ?ic2 ?e1_2 ?e2_2 ?e3_2 ?ic3 ?e1_3 ?e2_3 ?e3_3
    (case a6 => k_is)
    (case l6 => k_is)
    (case c6 => k_is)
    (case k6 => k_is)
    (case a9 => k_is)
    (case l9 => k_is)
    (case c9 => k_is)
    (case k9 => k_is)
    (case a10 => k_is)
    (case l10 => k_is)
    (case c10 => k_is)
    (case k10 => k_is)
    (case a13 => k_is)
    (case l13 => k_is)
    (case c13 => k_is)
    (case k13 => k_is)
    (case a14 => k_is)
    (case l14 => k_is)
    (case c14 => k_is)
    (case k14 => k_is)
    (case a15 => k_is)
    (case l15 => k_is)
    (case c15 => k_is)
    (case k15 => k_is)
    (case a16 => k_is)
    (case l16 => k_is)
    (case c16 => k_is)
    (case k16 => k_is)
    (case a17 => k_is)
    (case l17 => k_is)
    (case c17 => k_is)
    (case k17 => k_is)
    (case a18 => k_is)
    (case l18 => k_is)
    (case c18 => k_is)
    (case k18 => k_is)
    (case a19 => k_is)
    (case l19 => k_is)
    (case c19 => k_is)
    (case k19 => k_is)
    (case a20 => k_is)
    (case l20 => k_is)
    (case c20 => k_is)
    (case k20 => k_is)
    (case a22 => k_is)
    (case l22 => k_is)
    (case c22 => k_is)
    (case k22 => k_is)
    (case a23 => k_is)
    (case l23 => k_is)
    (case c23 => k_is)
    (case k23 => k_is)
    (case a24 => k_is)
    (case l24 => k_is)
    (case c24 => k_is)
    (case k24 => k_is)
    (case a25 => k_is)
    (case l25 => k_is)
    (case c25 => k_is)
    (case k25 => k_is)
    (case a26 => k_is)
    (case l26 => k_is)
    (case c26 => k_is)
    (case k26 => k_is)
    (case a27 => k_is)
    (case l27 => k_is)
    (case c27 => k_is)
    (case k27 => k_is)
    (case a29 => k_is)
    (case l29 => k_is)
    (case c29 => k_is)
    (case k29 => k_is)
    (case a28 => k_is)
    (case l28 => k_is)
    (case c28 => k_is)
    (case k28 => k_is)
    (case a30 => k_is)
    (case l30 => k_is)
    (case c30 => k_is)
    (case k30 => k_is)
    (case a31 => k_is)
    (case l31 => k_is)
    (case c31 => k_is)
    (case k31 => k_is)
    (case a32 => k_is)
    (case l32 => k_is)
    (case c32 => k_is)
    (case k32 => k_is)
    (case a33 => k_is)
    (case l33 => k_is)
    (case c33 => k_is)
    (case k33 => k_is)
    (case a34 => k_is)
    (case l34 => k_is)
    (case c34 => k_is)
    (case k34 => k_is)
    (case a5 => k_is)
    (case a7 => k_is)
    (case l7 => k_is)
    (case a12 => k_is)
    (case z_abs => k_is)
    (case z_all => k_is)
    (case z_any => k_is)
    (case z_bool => k_is)
    (case z_int => k_is)
    (case z_isinstance => k_is)
    (case z_len => k_is)
    (case z_list => k_is)
    (case z_max => k_is)
    (case z_range => k_is)
    (case z_sorted => k_is)
    (case z_str => k_is)
    (case z_tuple => k_is)
    (case z_zip => k_is)
    (case g1 => k_is)
    (case s1 => k_is)
    (case t1 => k_is)
    (case k1 => k_is)
    (case q1 => k_exc)
    (case g2 => k_is)
    (case s2 => k_is)
    (case t2 => k_is)
    (case k2 => k_is)
    (case q2 => k_exc)
    (case g3 => k_is)
    (case s3 => k_is)
    (case t3 => k_is)
    (case k3 => k_is)
    (case q3 => k_exc)
    (case ic1 => k_is)
    (case e1_1 => first | k_is | rfl)
    (case e2_1 => first | k_is | rfl)
    (case e3_1 => first | k_is | rfl)
    (case ic2 => k_is)
    (case e1_2 => first | k_is | rfl)
    (case e2_2 => first | k_is | rfl)
    (case e3_2 => first | k_is | rfl)
    (case ic3 => k_is)
    (case e1_3 => first | k_is | rfl)
    (case e2_3 => first | k_is | rfl)
    (case e3_3 => first | k_is | rfl)

